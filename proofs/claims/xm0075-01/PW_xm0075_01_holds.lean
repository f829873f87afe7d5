import PyProof.Rows.All
import Wide.All
import OpenK.AllK
import Wide.FinOn
import Lean
import PySem.Challenge.RW_xm0075_01
set_option Elab.async false
set_option compiler.extract_closed false
theorem Mine.hide {G : Prop} (h : ∀ H : Prop, (G → H) → H) : G := h G fun x => x
local macro_rules | `(tactic| obtain $p:rcasesPatMed := $e:term) => `(tactic| focus (refine Mine.hide ?_; intro H hH; rcases $e:term with $p <;> (refine hH ?_; clear hH)))
theorem Mine.wk {a b a' b' v : Int} (h : a ≤ v ∧ v ≤ b) (h1 : a' ≤ a) (h2 : b ≤ b') : a' ≤ v ∧ v ≤ b' := ⟨Int.le_trans h1 h.1, Int.le_trans h.2 h2⟩
theorem Mine.wkl {a b a' v : Int} (h : a ≤ v ∧ v ≤ b) (h1 : a' < a) : a' < v := Int.lt_of_lt_of_le h1 h.1
theorem Mine.wkr {a b b' v : Int} (h : a ≤ v ∧ v ≤ b) (h1 : b < b') : v < b' := Int.lt_of_le_of_lt h.2 h1
theorem Mine.wkl' {a b a' v : Int} (h : a ≤ v ∧ v ≤ b) (h1 : a' ≤ a) : a' ≤ v := Int.le_trans h1 h.1
theorem Mine.wkr' {a b b' v : Int} (h : a ≤ v ∧ v ≤ b) (h1 : b ≤ b') : v ≤ b' := Int.le_trans h.2 h1
theorem Mine.castUp {n m : Nat} {c : Int} (h : n ≤ m) (h1 : (m : Int) < c) : (n : Int) < c := Int.lt_of_le_of_lt (Int.ofNat_le.2 h) h1
theorem Mine.castLo {n : Nat} {c : Int} (h1 : c ≤ 0) : c ≤ (n : Int) := Int.le_trans h1 (Int.natCast_nonneg n)
-- HdTop
section
open PySem PySem.W PyProof.Rows PySem.Calls
set_option Elab.async false
set_option maxRecDepth 100000
set_option maxHeartbeats 0
namespace Mine
/-! the head by hand: the top's run is proved by the kernel in one evaluation; the heap is told only at the names that the law calls -/
noncomputable abbrev PP : Program := PySem.Challenge.rw_xm0075_01.row.prog
noncomputable def sAt (k : Nat) : Stmt := match PP.main.body.drop k with
  | s :: _ => s
  | [] => .Pass default
/-- the defs and the class of the text -/
noncomputable def qV : Program := { PP with main := { PP.main with body := [sAt 1, sAt 2, sAt 3, sAt 4, sAt 5, sAt 6, sAt 7, sAt 8, sAt 10, sAt 12, sAt 13, sAt 14, sAt 15, sAt 17, sAt 19, sAt 20, sAt 21, sAt 22, sAt 23, sAt 24, sAt 25] } }
noncomputable def ent (P : Params) (n : String) (t : Nat) (v : Value) : DictEntry := { hash := PyData.keyHash P (Str.ofString n), key := .str (Str.ofString n) t, val := v }
/-- the k-th statement's function -/
noncomputable def fo (k : Nat) (m : String) (t c : Nat) : Obj := match sAt k with
  | .FunctionDef nm ar bd _ _ _ sc _ _ _ => { cls := .type "function", data := .func { name := nm, qualname := nm, params := ar, body := .stmts bd, scope := sc, globals := 3, closure := [], defaults := .none, kwdefaults := .none, pyModule := .str (Str.ofString m) t, code := .ref c } }
  | _ => { cls := .none }
noncomputable def heapK (P : Params) : Frag := [(3, { cls := .type "dict", data := .dict #[ent P "__name__" 165 (.str (Str.ofString "law_xm0075_01") 335), ent P "__doc__" 166 (.none), ent P "__package__" 167 (.none), ent P "__loader__" 168 (.builtin "__main__.__loader__#opaque"), ent P "__spec__" 169 (.none), ent P "__annotations__" 170 (.ref 6), ent P "__builtins__" 171 (.ref 4), ent P "__file__" 173 (.str (Str.ofString "/claim/cut.py") 172), ent P "__cached__" 174 (.none), ent P "unit_rows" 194 (.ref 19), ent P "least_spot" 207 (.ref 26), ent P "swap_columns" 217 (.ref 33), ent P "bring" 231 (.ref 40), ent P "clear_cross" 237 (.ref 45), ent P "undivided_row" 243 (.ref 50), ent P "smith_form" 249 (.ref 55), ent P "diagonal" 255 (.ref 60), ent P "CasFail" 288 (.ref 77), ent P "pivot_row" 299 (.ref 87), ent P "bareiss_step" 312 (.ref 94), ent P "determinant" 318 (.ref 99), ent P "leading_minors" 324 (.ref 104), ent P "gcd" 334 (.ref 111), ent P "_law_draw" 345 (.ref 118), ent P "_law_divides" 353 (.ref 125), ent P "_law_greatest" 361 (.ref 132), ent P "_law_lot" 367 (.ref 137), ent P "_law_left" 373 (.ref 142), ent P "_law_products" 383 (.ref 149), ent P "law" 389 (.ref 154)] 30 }), (19, fo 1 "cas.normal" 187 18), (26, fo 2 "cas.normal" 187 25), (33, fo 3 "cas.normal" 187 32), (40, fo 4 "cas.normal" 187 39), (45, fo 5 "cas.normal" 187 44), (50, fo 6 "cas.normal" 187 49), (55, fo 7 "cas.normal" 187 54), (60, fo 8 "cas.normal" 187 59), (87, fo 12 "cas.bareiss" 289 86), (94, fo 13 "cas.bareiss" 289 93), (99, fo 14 "cas.bareiss" 289 98), (104, fo 15 "cas.bareiss" 289 103), (111, fo 17 "cas.ints" 325 110), (118, fo 19 "law_xm0075_01" 335 117), (125, fo 20 "law_xm0075_01" 335 124), (132, fo 21 "law_xm0075_01" 335 131), (137, fo 22 "law_xm0075_01" 335 136), (142, fo 23 "law_xm0075_01" 335 141), (149, fo 24 "law_xm0075_01" 335 148), (18, { cls := .type "code", data := .fields #[.str (Str.ofString "unit_rows") 189, .str (Str.ofString "unit_rows") 190, .str (Str.ofString "/claim/cut.py") 191, .int 2 0, .int 1 0, .int 0 0, .int 0 0, .int 3 0, .ref 15, .bool true, .int 181 0, .ref 16, .none, .none, .none, .ref 17, .int 192 0, .int 2 0, .str (Str.ofString "/claim/cut.py") 193] }), (25, { cls := .type "code", data := .fields #[.str (Str.ofString "least_spot") 195, .str (Str.ofString "least_spot") 196, .str (Str.ofString "/claim/cut.py") 197, .int 4 0, .int 3 0, .int 0 0, .int 0 0, .int 3 0, .ref 20, .bool true, .int 181 0, .ref 21, .none, .ref 22, .ref 23, .ref 24, .int 205 0, .int 4 0, .str (Str.ofString "/claim/cut.py") 206] }), (32, { cls := .type "code", data := .fields #[.str (Str.ofString "swap_columns") 208, .str (Str.ofString "swap_columns") 209, .str (Str.ofString "/claim/cut.py") 210, .int 12 0, .int 3 0, .int 0 0, .int 0 0, .int 3 0, .ref 27, .bool true, .int 181 0, .ref 28, .none, .ref 29, .ref 30, .ref 31, .int 215 0, .int 12 0, .str (Str.ofString "/claim/cut.py") 216] }), (39, { cls := .type "code", data := .fields #[.str (Str.ofString "bring") 218, .str (Str.ofString "bring") 219, .str (Str.ofString "/claim/cut.py") 220, .int 15 0, .int 5 0, .int 0 0, .int 0 0, .int 3 0, .ref 34, .bool true, .int 181 0, .ref 35, .none, .ref 36, .ref 37, .ref 38, .int 229 0, .int 15 0, .str (Str.ofString "/claim/cut.py") 230] }), (44, { cls := .type "code", data := .fields #[.str (Str.ofString "clear_cross") 232, .str (Str.ofString "clear_cross") 233, .str (Str.ofString "/claim/cut.py") 234, .int 21 0, .int 5 0, .int 0 0, .int 0 0, .int 3 0, .ref 41, .bool true, .int 181 0, .ref 42, .none, .none, .none, .ref 43, .int 235 0, .int 21 0, .str (Str.ofString "/claim/cut.py") 236] }), (49, { cls := .type "code", data := .fields #[.str (Str.ofString "undivided_row") 238, .str (Str.ofString "undivided_row") 239, .str (Str.ofString "/claim/cut.py") 240, .int 35 0, .int 3 0, .int 0 0, .int 0 0, .int 3 0, .ref 46, .bool true, .int 181 0, .ref 47, .none, .none, .none, .ref 48, .int 241 0, .int 35 0, .str (Str.ofString "/claim/cut.py") 242] }), (54, { cls := .type "code", data := .fields #[.str (Str.ofString "smith_form") 244, .str (Str.ofString "smith_form") 245, .str (Str.ofString "/claim/cut.py") 246, .int 40 0, .int 2 0, .int 0 0, .int 0 0, .int 3 0, .ref 51, .bool true, .int 181 0, .ref 52, .none, .none, .none, .ref 53, .int 247 0, .int 40 0, .str (Str.ofString "/claim/cut.py") 248] }), (59, { cls := .type "code", data := .fields #[.str (Str.ofString "diagonal") 250, .str (Str.ofString "diagonal") 251, .str (Str.ofString "/claim/cut.py") 252, .int 60 0, .int 2 0, .int 0 0, .int 0 0, .int 3 0, .ref 56, .bool true, .int 181 0, .ref 57, .none, .none, .none, .ref 58, .int 253 0, .int 60 0, .str (Str.ofString "/claim/cut.py") 254] }), (86, { cls := .type "code", data := .fields #[.str (Str.ofString "pivot_row") 291, .str (Str.ofString "pivot_row") 292, .str (Str.ofString "/claim/cut.py") 293, .int 70 0, .int 2 0, .int 0 0, .int 0 0, .int 3 0, .ref 81, .bool true, .int 181 0, .ref 82, .none, .ref 83, .ref 84, .ref 85, .int 297 0, .int 70 0, .str (Str.ofString "/claim/cut.py") 298] }), (93, { cls := .type "code", data := .fields #[.str (Str.ofString "bareiss_step") 300, .str (Str.ofString "bareiss_step") 301, .str (Str.ofString "/claim/cut.py") 302, .int 75 0, .int 3 0, .int 0 0, .int 0 0, .int 3 0, .ref 88, .bool true, .int 181 0, .ref 89, .none, .ref 90, .ref 91, .ref 92, .int 310 0, .int 75 0, .str (Str.ofString "/claim/cut.py") 311] }), (98, { cls := .type "code", data := .fields #[.str (Str.ofString "determinant") 313, .str (Str.ofString "determinant") 314, .str (Str.ofString "/claim/cut.py") 315, .int 82 0, .int 1 0, .int 0 0, .int 0 0, .int 3 0, .ref 95, .bool true, .int 181 0, .ref 96, .none, .none, .none, .ref 97, .int 316 0, .int 82 0, .str (Str.ofString "/claim/cut.py") 317] }), (103, { cls := .type "code", data := .fields #[.str (Str.ofString "leading_minors") 319, .str (Str.ofString "leading_minors") 320, .str (Str.ofString "/claim/cut.py") 321, .int 96 0, .int 1 0, .int 0 0, .int 0 0, .int 3 0, .ref 100, .bool true, .int 181 0, .ref 101, .none, .none, .none, .ref 102, .int 322 0, .int 96 0, .str (Str.ofString "/claim/cut.py") 323] }), (110, { cls := .type "code", data := .fields #[.str (Str.ofString "gcd") 327, .str (Str.ofString "gcd") 328, .str (Str.ofString "/claim/cut.py") 329, .int 99 0, .int 2 0, .int 0 0, .int 0 0, .int 3 0, .ref 105, .bool true, .int 181 0, .ref 106, .none, .ref 107, .ref 108, .ref 109, .int 332 0, .int 99 0, .str (Str.ofString "/claim/cut.py") 333] }), (117, { cls := .type "code", data := .fields #[.str (Str.ofString "_law_draw") 337, .str (Str.ofString "_law_draw") 338, .str (Str.ofString "/claim/cut.py") 339, .int 105 0, .int 2 0, .int 0 0, .int 0 0, .int 3 0, .ref 112, .bool true, .int 181 0, .ref 113, .none, .ref 114, .ref 115, .ref 116, .int 343 0, .int 105 0, .str (Str.ofString "/claim/cut.py") 344] }), (124, { cls := .type "code", data := .fields #[.str (Str.ofString "_law_divides") 346, .str (Str.ofString "_law_divides") 347, .str (Str.ofString "/claim/cut.py") 348, .int 111 0, .int 2 0, .int 0 0, .int 0 0, .int 3 0, .ref 119, .bool true, .int 181 0, .ref 120, .none, .ref 121, .ref 122, .ref 123, .int 351 0, .int 111 0, .str (Str.ofString "/claim/cut.py") 352] }), (131, { cls := .type "code", data := .fields #[.str (Str.ofString "_law_greatest") 354, .str (Str.ofString "_law_greatest") 355, .str (Str.ofString "/claim/cut.py") 356, .int 113 0, .int 2 0, .int 0 0, .int 0 0, .int 3 0, .ref 126, .bool true, .int 181 0, .ref 127, .none, .ref 128, .ref 129, .ref 130, .int 359 0, .int 113 0, .str (Str.ofString "/claim/cut.py") 360] }), (136, { cls := .type "code", data := .fields #[.str (Str.ofString "_law_lot") 362, .str (Str.ofString "_law_lot") 363, .str (Str.ofString "/claim/cut.py") 364, .int 115 0, .int 1 0, .int 0 0, .int 0 0, .int 3 0, .ref 133, .bool true, .int 181 0, .ref 134, .none, .none, .none, .ref 135, .int 365 0, .int 115 0, .str (Str.ofString "/claim/cut.py") 366] }), (141, { cls := .type "code", data := .fields #[.str (Str.ofString "_law_left") 368, .str (Str.ofString "_law_left") 369, .str (Str.ofString "/claim/cut.py") 370, .int 119 0, .int 2 0, .int 0 0, .int 0 0, .int 3 0, .ref 138, .bool true, .int 181 0, .ref 139, .none, .none, .none, .ref 140, .int 371 0, .int 119 0, .str (Str.ofString "/claim/cut.py") 372] }), (148, { cls := .type "code", data := .fields #[.str (Str.ofString "_law_products") 374, .str (Str.ofString "_law_products") 375, .str (Str.ofString "/claim/cut.py") 376, .int 124 0, .int 1 0, .int 0 0, .int 0 0, .int 3 0, .ref 143, .bool true, .int 181 0, .ref 144, .none, .ref 145, .ref 146, .ref 147, .int 381 0, .int 124 0, .str (Str.ofString "/claim/cut.py") 382] })]
theorem heapK_as : ∀ P, [3, 19, 26, 33, 40, 45, 50, 55, 60, 87, 94, 99, 104, 111, 118, 125, 132, 137, 142, 149, 18, 25, 32, 39, 44, 49, 54, 59, 86, 93, 98, 103, 110, 117, 124, 131, 136, 141, 148] = (heapK P).map (·.1) := fun _ => rfl
noncomputable abbrev HK : Hook := kHook heapK _ heapK_as
theorem hdLeft : LeftO PP qV [] (fun s => xlAt qV [] s && recOk (RowW.records (OpenRow.toRowW PySem.Challenge.rw_xm0075_01.row)) s) (Hook.obs HK) (Hook.val HK) 1840 := by
  intro w
  kernel_rfl
theorem hdSaid : PySem.Challenge.rw_xm0075_01.wellSaid = true := by decide +kernel
theorem hd {d : DefRec} {kwd : List (Str × PySem.Expr)} (hdef : defOf qV (OpenRow.toRowW PySem.Challenge.rw_xm0075_01.row).name = some (d, kwd)) (hp : PP.theDef (OpenRow.toRowW PySem.Challenge.rw_xm0075_01.row).name = some (d.params, d.body, d.scope)) (hk : kwWritten? d.params.kwonlyargs d.params.kw_defaults = some kwd)
    (call : WalkO qV [] (XL qV []) (Hook.says HK) (OpenRow.toRowW PySem.Challenge.rw_xm0075_01.row) d kwd fun f vs => PySem.call f vs) : PySem.Challenge.rw_xm0075_01.Holds := by
  refine holds_law (l := PySem.Challenge.rw_xm0075_01) hdSaid fun said => ?_
  refine holds_open (q := qV) (loose := []) (Xt := fun s => xlAt qV [] s && recOk (RowW.records (OpenRow.toRowW PySem.Challenge.rw_xm0075_01.row)) s) (XP := XL qV []) (Yf := Hook.obs HK) (Ya := Hook.val HK) (YP := Hook.says HK) (N := 1840) hdLeft (Hook.of HK) (Hook.keeps HK)
    (fun s e => xl_of s (Bool.and_eq_true_iff.mp e).1) XL.keeps hdef hp hk (fun s e => recFacts_of (Bool.and_eq_true_iff.mp e).2) rfl said (by decide +kernel) ⟨rfl, rfl, rfl, rfl, rfl, by decide +kernel⟩ ?hw call
  case hw => w_witness2
end Mine
end
-- Fw1
section
open PySem PySem.W PyProof.Rows PySem.Calls
set_option Elab.async false
set_option maxRecDepth 100000
set_option linter.unusedVariables false
namespace Mine

/-! ## states and what stays -/
structure Chg (Z : Addr → Prop) (s s' : Shared) : Prop where
  keep : ∀ b o, s.heap.get? b = some o → ¬ Z b → s'.heap.get? b = some o
  nn : ∀ b, s'.heap.get? b = none → s.heap.get? b = none
  gens : s'.gens = s.gens
  os : s'.os = s.os
noncomputable def NoZ : Addr → Prop := fun _ => False
abbrev Ext (s s' : Shared) : Prop := Chg NoZ s s'

theorem some_ne {α : Type} {o : Option α} {a : α} (e : o = some a) : o ≠ none := by rw [e]; simp
theorem Chg.refl {Z s} : Chg Z s s := ⟨fun _ _ e _ => e, fun _ e => e, rfl, rfl⟩
theorem Chg.trans {Z s s' s''} (x : Chg Z s s') (y : Chg Z s' s'') : Chg Z s s'' :=
  ⟨fun b o e n => y.1 b o (x.1 b o e n) n, fun b e => x.2 b (y.2 b e), y.3.trans x.3, y.4.trans x.4⟩
theorem Chg.monoE {Z Z' s s'} (x : Chg Z s s') (h : ∀ b, s.heap.get? b ≠ none → Z b → Z' b) : Chg Z' s s' :=
  ⟨fun b o e n => x.1 b o e fun z => n (h b (some_ne e) z), x.2, x.3, x.4⟩
theorem Chg.mono {Z Z' s s'} (x : Chg Z s s') (h : ∀ b, Z b → Z' b) : Chg Z' s s' := x.monoE fun b _ => h b
theorem Chg.ex {Z s s'} (x : Chg Z s s') {b : Addr} (h : s.heap.get? b ≠ none) : s'.heap.get? b ≠ none := fun e => h (x.2 b e)
theorem Chg.transE {Z Z' s s' s''} (x : Chg Z s s') (y : Chg Z' s' s'') (h : ∀ b, s.heap.get? b ≠ none → Z' b → Z b) : Chg Z s s'' :=
  ⟨fun b o e n => y.1 b o (x.1 b o e n) fun z => n (h b (some_ne e) z), fun b e => x.2 b (y.2 b e), y.3.trans x.3, y.4.trans x.4⟩
theorem Ext.any {Z s s'} (x : Ext s s') : Chg Z s s' := x.mono fun _ h => h.elim
theorem Chg.all {s s'} (x : Ext s s') : ∀ b o, s.heap.get? b = some o → s'.heap.get? b = some o := fun b o e => x.1 b o e fun h => h
theorem size_none (h : Heap) : h.get? h.objs.size = none := by
  cases e : h.get? h.objs.size with
  | none => rfl
  | some o => exact absurd (Heap.lt_size e) (Nat.lt_irrefl _)
theorem Ext.of_keep {s : Shared} {h' : Heap} {d : Drawn} {t : Nat} (k : ∀ b o, s.heap.get? b = some o → h'.get? b = some o) :
    Ext s { heap := h', gens := s.gens, drawn := d, toks := t, os := s.os } := by
  refine ⟨fun b o e _ => k b o e, fun b e => ?_, rfl, rfl⟩
  cases q : s.heap.get? b with
  | none => rfl
  | some o' => exact absurd e (some_ne (k b o' q))
theorem Ext.push {s : Shared} {o : Obj} {d : Drawn} {t : Nat} : Ext s { heap := s.heap.push o, gens := s.gens, drawn := d, toks := t, os := s.os } :=
  .of_keep fun _ _ e => Heap.get?_push_of_some _ e
theorem Ext.toks {s : Shared} {d : Drawn} {t : Nat} : Ext s { heap := s.heap, gens := s.gens, drawn := d, toks := t, os := s.os } :=
  .of_keep fun _ _ e => e
theorem Chg.same {s : Shared} {a : Addr} {h' : Heap} {d : Drawn} {t : Nat} (k : Heap.SameBut a s.heap h') (ha : h'.get? a ≠ none) :
    Chg (fun b => b = a) s { heap := h', gens := s.gens, drawn := d, toks := t, os := s.os } := by
  refine ⟨fun b o e n => (k.2 b n).trans e, fun b e => ?_, rfl, rfl⟩
  by_cases q : b = a
  · subst q; exact absurd e ha
  · exact (k.2 b q).symm.trans e
/-- a change at an address that was not there at the start -/
theorem Chg.extNew {Z : Addr → Prop} {s₀ s : Shared} {a : Addr} {h' : Heap} {d : Drawn} {t : Nat} (x : Chg Z s₀ s) (k : Heap.ExtBut a s.heap h') (ha : s₀.heap.get? a = none) :
    Chg Z s₀ { heap := h', gens := s.gens, drawn := d, toks := t, os := s.os } := by
  have na : ∀ b, s₀.heap.get? b ≠ none → b ≠ a := fun b e q => e (q ▸ ha)
  refine ⟨fun b o e n => k b o (na b (some_ne e)) (x.1 b o e n), fun b e => ?_, x.3, x.4⟩
  cases q : s₀.heap.get? b with
  | none => rfl
  | some o' =>
    obtain ⟨o'', h2⟩ := Option.ne_none_iff_exists'.mp (x.ex (b := b) (some_ne q))
    exact absurd e (some_ne (k b o'' (na b (some_ne q)) h2))

/-! ## values -/
noncomputable def IsI (n : Int) : Value → Shared → Prop := fun v _ => ∃ t, v = .int n t
noncomputable def IsB (b : Bool) : Value → Shared → Prop := fun v _ => v = .bool b
noncomputable def IsV (u : Value) : Value → Shared → Prop := fun v _ => v = u

/-- evaluation without a store into anything that stood before -/
noncomputable def Ev (M : Model) (A : Around) (t : Sem Value) (s : Shared) (P : Value → Shared → Prop) : Prop :=
  ∀ s₁, Ext s s₁ → ∀ Q : Value → Shared → Prop, (∀ v s', P v s' → Ext s₁ s' → Q v s') → wpAny M A t Q (fun _ _ => False) s₁

section
variable {M : Model} {A : Around} {s : Shared} {env : Env}
theorem Ev.use {t : Sem Value} {P : Value → Shared → Prop} (h : Ev M A t s P) {Q : Value → Shared → Prop} (k : ∀ v s', P v s' → Ext s s' → Q v s') :
    wpAny M A t Q (fun _ _ => False) s := h s .refl Q k
theorem Ev.useE {t : Sem Value} {P : Value → Shared → Prop} {E : Value → Shared → Prop} (h : Ev M A t s P) {Q : Value → Shared → Prop} (k : ∀ v s', P v s' → Ext s s' → Q v s') :
    wpAny M A t Q E s := wpAny_mono (h s .refl Q k) (fun _ _ x => x) fun _ _ x => x.elim
theorem Ev.up {t : Sem Value} {P : Value → Shared → Prop} {s' : Shared} (h : Ev M A t s P) (x : Ext s s') : Ev M A t s' P :=
  fun s₁ y Q k => h s₁ (x.trans y) Q k
theorem Ev.imp {t : Sem Value} {P P' : Value → Shared → Prop} (h : Ev M A t s P) (k : ∀ v s', P v s' → Ext s s' → P' v s') : Ev M A t s P' :=
  fun s₁ x Q q => h s₁ x Q fun v s' p y => q v s' (k v s' p (x.trans y)) y
theorem Ev.intC {i : Int} {k : Nat} {pos : Pos} : Ev M A (eval (.Constant (.int i) k pos) env) s (IsI i) :=
  fun _ _ _ q => wpAny_Constant_int (q _ _ ⟨_, rfl⟩ .toks)
theorem Ev.noneC {k : Nat} {pos : Pos} : Ev M A (eval (.Constant .none k pos) env) s (IsV .none) :=
  fun _ _ _ q => wpAny_Constant_none (q _ _ rfl .refl)
theorem Ev.boolC {b : Bool} {k : Nat} {pos : Pos} : Ev M A (eval (.Constant (.bool b) k pos) env) s (IsB b) :=
  fun _ _ _ q => wpAny_Constant_bool (q _ _ rfl .refl)
end

section
variable {prog : Program} {w : World} {A : Around} {s : Shared} {env : Env}
theorem Ev.bin {l r : Expr} {op : Operator} {pos : Pos} {P R : Value → Shared → Prop} {S : Value → Shared → Prop}
    (hl : Ev (model prog w) A (eval l env) s P) (hr : Ev (model prog w) A (eval r env) s R)
    (hP : ∀ v s₁ s₂, P v s₁ → Ext s₁ s₂ → P v s₂)
    (h : ∀ a b s', P a s' → R b s' → Ext s s' → Ev (model prog w) A (binaryOp op a b) s' S) : Ev (model prog w) A (eval (.BinOp l op r pos) env) s S :=
  fun s₁ x Q q => wpAny_BinOp (hl s₁ x _ fun a s₂ pa y => hr s₂ (x.trans y) _ fun b s₃ rb z =>
    h a b s₃ (hP _ _ _ pa z) rb (x.trans (y.trans z)) s₃ .refl _ fun v s' sv u => q v s' sv (y.trans (z.trans u)))
theorem IsI.mono {n : Int} : ∀ v (s₁ s₂ : Shared), IsI n v s₁ → Ext s₁ s₂ → IsI n v s₂ := fun _ _ _ h _ => h
theorem IsV.mono {u : Value} : ∀ v (s₁ s₂ : Shared), IsV u v s₁ → Ext s₁ s₂ → IsV u v s₂ := fun _ _ _ h _ => h
theorem IsB.mono {u : Bool} : ∀ v (s₁ s₂ : Shared), IsB u v s₁ → Ext s₁ s₂ → IsB u v s₂ := fun _ _ _ h _ => h
theorem Ev.add {l r : Expr} {pos : Pos} {a b : Int} (hl : Ev (model prog w) A (eval l env) s (IsI a)) (hr : Ev (model prog w) A (eval r env) s (IsI b)) :
    Ev (model prog w) A (eval (.BinOp l .Add r pos) env) s (IsI (a + b)) :=
  .bin hl hr IsI.mono fun _ _ _ ⟨_, ea⟩ ⟨_, eb⟩ _ => by subst ea eb; exact fun _ _ _ q => add_int (q _ _ ⟨_, rfl⟩ .toks)
theorem Ev.sub {l r : Expr} {pos : Pos} {a b : Int} (hl : Ev (model prog w) A (eval l env) s (IsI a)) (hr : Ev (model prog w) A (eval r env) s (IsI b)) :
    Ev (model prog w) A (eval (.BinOp l .Sub r pos) env) s (IsI (a - b)) :=
  .bin hl hr IsI.mono fun _ _ _ ⟨_, ea⟩ ⟨_, eb⟩ _ => by subst ea eb; exact fun _ _ _ q => sub_int (q _ _ ⟨_, rfl⟩ .toks)
theorem Ev.mul {l r : Expr} {pos : Pos} {a b : Int} (hl : Ev (model prog w) A (eval l env) s (IsI a)) (hr : Ev (model prog w) A (eval r env) s (IsI b)) (ok : IntMulOk a b) :
    Ev (model prog w) A (eval (.BinOp l .Mult r pos) env) s (IsI (a * b)) :=
  .bin hl hr IsI.mono fun _ _ _ ⟨_, ea⟩ ⟨_, eb⟩ _ => by subst ea eb; exact fun _ _ _ q => mul_int (q _ _ ⟨_, rfl⟩ .toks) ok
theorem Ev.fdiv {l r : Expr} {pos : Pos} {a b : Int} (hl : Ev (model prog w) A (eval l env) s (IsI a)) (hr : Ev (model prog w) A (eval r env) s (IsI b)) (hb : b ≠ 0)
    (ok : Builtin.divisionGoesByPylong a b = false) :
    Ev (model prog w) A (eval (.BinOp l .FloorDiv r pos) env) s (IsI (a.fdiv b)) :=
  .bin hl hr IsI.mono fun _ _ _ ⟨_, ea⟩ ⟨_, eb⟩ _ => by subst ea eb; exact fun _ _ _ q => floordiv_int hb (q _ _ ⟨_, rfl⟩ .toks) (.inl ok)
theorem Ev.fmod {l r : Expr} {pos : Pos} {a b : Int} (hl : Ev (model prog w) A (eval l env) s (IsI a)) (hr : Ev (model prog w) A (eval r env) s (IsI b)) (hb : b ≠ 0) :
    Ev (model prog w) A (eval (.BinOp l .Mod r pos) env) s (IsI (a.fmod b)) :=
  .bin hl hr IsI.mono fun _ _ _ ⟨_, ea⟩ ⟨_, eb⟩ _ => by subst ea eb; exact fun _ _ _ q => mod_int' hb (q _ _ ⟨_, rfl⟩ .toks)
theorem Ev.cmp {l r : Expr} {op : CmpOp} {pos : Pos} {P R : Value → Shared → Prop} {S : Value → Shared → Prop}
    (hl : Ev (model prog w) A (eval l env) s P) (hr : Ev (model prog w) A (eval r env) s R)
    (hP : ∀ v s₁ s₂, P v s₁ → Ext s₁ s₂ → P v s₂)
    (h : ∀ a b s', P a s' → R b s' → Ext s s' → Ev (model prog w) A (compareOp op a b) s' S)
    (hm : behindInMarks op r = false := by with_unfolding_all rfl) : Ev (model prog w) A (eval (.Compare l [op] [r] pos) env) s S :=
  fun s₁ x Q q => wpAny_Compare1 (hl s₁ x _ fun a s₂ pa y => hr s₂ (x.trans y) _ fun b s₃ rb z =>
    h a b s₃ (hP _ _ _ pa z) rb (x.trans (y.trans z)) s₃ .refl _ fun v s' sv u => q v s' sv (y.trans (z.trans u))) hm
end
end Mine
end
-- Fw2
section
open PySem PySem.W PyProof.Rows PySem.Calls
set_option Elab.async false
set_option maxRecDepth 100000
set_option linter.unusedVariables false
namespace Mine

/-! ## frames -/
noncomputable def Own (env : Env) (b : Addr) : Prop := b = env.locals ∨ ∃ x, env.cells.lookup x = some b
noncomputable def TgA (env : Env) (x : Str) (b : Addr) : Prop := b = env.locals ∨ env.cells.lookup x = some b
theorem TgA.own {env x b} (h : TgA env x b) : Own env b := h.elim .inl fun h => .inr ⟨x, h⟩
noncomputable def upd (ρ : Str → Option Value) (x : Str) (v : Value) : Str → Option Value := fun y => if y = x then some v else ρ y
theorem upd_self {ρ x v} : upd ρ x v x = some v := if_pos rfl
theorem upd_ne {ρ x v y} (h : y ≠ x) : upd ρ x v y = ρ y := if_neg h

structure Fm (env : Env) (h : Heap) (ρ : Str → Option Value) : Prop where
  ns : ∃ m, h.Ns env.locals m ∧ ∀ x, env.kindOf x = some .local → m x = ρ x
  cell : ∀ x c, env.cells.lookup x = some c → h.IsCell c (ρ x)
  ap : ∀ x c, env.cells.lookup x = some c → c ≠ env.locals
  inj : ∀ x y c, env.cells.lookup x = some c → env.cells.lookup y = some c → x = y

structure En (env : Env) : Prop where
  kind : env.scope.kind = .function
  glob : env.globals = mainGlobals
  bi : env.builtins = builtinsNs

noncomputable def ldOk (env : Env) (x : Str) : Bool := match env.kindOf x with
  | some .local => true
  | some .cell | some .free => (env.cells.lookup x).isSome
  | _ => false
noncomputable def stOk (env : Env) (x : Str) : Bool := match env.kindOf x with
  | some .local => (env.cells.lookup x).isNone
  | some .cell => (env.cells.lookup x).isSome
  | _ => false

theorem Fm.keep {env h h' ρ} (F : Fm env h ρ) (k : ∀ b o, Own env b → h.get? b = some o → h'.get? b = some o) : Fm env h' ρ := by
  obtain ⟨⟨m, ⟨o, es, ep, ho, r⟩, hm⟩, hc, ha, hi⟩ := F
  exact ⟨⟨m, ⟨o, es, ep, k _ _ (.inl rfl) ho, r⟩, hm⟩, fun x c e => (by obtain ⟨o, ho, hd⟩ := hc x c e; exact ⟨o, k _ _ (.inr ⟨x, e⟩) ho, hd⟩), ha, hi⟩
theorem Fm.chg {env ρ Z} {s s' : Shared} (F : Fm env s.heap ρ) (c : Chg Z s s') (h : ∀ b, Own env b → ¬ Z b) : Fm env s'.heap ρ :=
  F.keep fun b o hb e => c.1 b o e (h b hb)
theorem Fm.ext {env ρ} {s s' : Shared} (F : Fm env s.heap ρ) (c : Ext s s') : Fm env s'.heap ρ := F.chg c fun _ _ h => h
theorem Fm.exOwn {env h ρ b} (F : Fm env h ρ) (hb : Own env b) : h.get? b ≠ none := by
  rcases hb with rfl | ⟨x, hx⟩
  · obtain ⟨⟨m, ⟨o, es, ep, ho, r⟩, hm⟩, hc, ha, hi⟩ := F; exact some_ne ho
  · obtain ⟨o, ho, hd⟩ := F.cell x b hx; exact some_ne ho
/-- own things are no sequences -/
theorem Fm.notSeq {env h ρ b o xs n} (F : Fm env h ρ) (hb : Own env b) (e : h.get? b = some o) : o.data ≠ .seq xs n := by
  intro hd
  rcases hb with rfl | ⟨x, hx⟩
  · obtain ⟨⟨m, ⟨o', es, ep, ho, hd', r⟩, hm⟩, hc, ha, hi⟩ := F
    rw [e] at ho; cases ho; rw [hd] at hd'; cases hd'
  · obtain ⟨o', ho, hd'⟩ := F.cell x b hx
    rw [e] at ho; cases ho; rw [hd] at hd'; cases hd'
theorem Fm.notFields {env h ρ b o xs} (F : Fm env h ρ) (hb : Own env b) (e : h.get? b = some o) : o.data ≠ .fields xs := by
  intro hd
  rcases hb with rfl | ⟨x, hx⟩
  · obtain ⟨⟨m, ⟨o', es, ep, ho, hd', r⟩, hm⟩, hc, ha, hi⟩ := F
    rw [e] at ho; cases ho; rw [hd] at hd'; cases hd'
  · obtain ⟨o', ho, hd'⟩ := F.cell x b hx
    rw [e] at ho; cases ho; rw [hd] at hd'; cases hd'

section
variable {M : Model} {A : Around} {s : Shared} {env : Env} {ρ : Str → Option Value} {x : Str}

theorem Fm.load {E : Value → Shared → Prop} {v : Value} {Q : Value → Shared → Prop} (F : Fm env s.heap ρ) (N : En env) (hx : ldOk env x = true) (hv : ρ x = some v) (h : Q v s)
    (hn : (x == ("__classdict__" : Str)) = false) : wpAny M A (loadName env x) Q E s := by
  unfold ldOk at hx
  split at hx
  · rename_i hk
    obtain ⟨m, hm, hs⟩ := F.ns
    exact wpAny_loadName_local N.kind hk hm ((hs x hk).trans hv) h
  · rename_i hk
    obtain ⟨c, hc⟩ := Option.isSome_iff_exists.mp hx
    exact wpAny_loadName_cell N.kind hk hc (hv ▸ F.cell x c hc) h
  · rename_i hk
    obtain ⟨c, hc⟩ := Option.isSome_iff_exists.mp hx
    exact wpAny_loadName_free N.kind hk hc (hv ▸ F.cell x c hc) h hn
  · cases hx

theorem Fm.store {E : Value → Shared → Prop} {v : Value} {Q : Unit → Shared → Prop} (F : Fm env s.heap ρ) (N : En env) (hx : stOk env x = true)
    (h : ∀ s', Fm env s'.heap (upd ρ x v) → Chg (TgA env x) s s' → Q () s') : wpAny M A (storeName env x v) Q E s := by
  unfold stOk at hx
  split at hx
  · rename_i hk
    have hnone : env.cells.lookup x = none := by simpa using hx
    obtain ⟨m, hm, hs⟩ := F.ns
    refine wpAny_storeName_local hk hm (fun h' hn' hs' => h _ ⟨⟨_, hn', fun y hy => ?_⟩, fun y c hc => ?_, F.ap, F.inj⟩ ?_) (by rw [N.kind]; rfl)
    · by_cases q : y = x
      · subst q; simp [upd]
      · simp only [upd, q, if_false]; exact hs y hy
    · have q : y ≠ x := fun q => by subst q; rw [hnone] at hc; cases hc
      rw [upd_ne q]
      exact (F.cell y c hc).sameBut hs' (F.ap y c hc)
    · exact (Chg.same hs' (by obtain ⟨o, _, _, ho, _⟩ := hn'; exact some_ne ho)).mono fun b e => .inl e
  · rename_i hk
    obtain ⟨c, hc⟩ := Option.isSome_iff_exists.mp hx
    refine wpAny_storeName_cell N.kind hk hc (F.cell x c hc) fun h' hc' hs' => h _ ⟨?_, fun y c' hy => ?_, F.ap, F.inj⟩ ?_
    · obtain ⟨m, hm, hs⟩ := F.ns
      refine ⟨m, hm.sameBut hs' (Ne.symm (F.ap x c hc)), fun y hy => ?_⟩
      have q : y ≠ x := fun q => by subst q; rw [hk] at hy; cases hy
      rw [upd_ne q]; exact hs y hy
    · by_cases q : y = x
      · subst q; rw [hc] at hy; cases hy; rw [upd_self]; exact hc'
      · rw [upd_ne q]
        exact (F.cell y c' hy).sameBut hs' fun e => q (F.inj y x c' hy (e ▸ hc))
    · exact (Chg.same hs' (by obtain ⟨o, ho, _⟩ := hc'; exact some_ne ho)).mono fun b e => .inr (e ▸ hc)
  · cases hx

theorem Ev.name {pos : Pos} {v : Value} (F : Fm env s.heap ρ) (N : En env) (hx : ldOk env x = true) (hv : ρ x = some v)
    (hd : (x == ("__debug__" : Str)) = false) (hn : (x == ("__classdict__" : Str)) = false) : Ev M A (eval (.Name x pos) env) s (IsV v) :=
  fun s₁ y Q q => wpAny_Name ((F.ext y).load N hx hv (q _ _ rfl .refl) hn) hd

/-! ## the world -/
structure Am (K : Frag) (hb : Heap) : Prop where
  top : ∃ p l mg mb, TopRead p l mg mb hb
  kin : K.In hb
noncomputable def Up (hb : Heap) (s : Shared) : Prop := ∀ b o, hb.get? b = some o → s.heap.get? b = some o
theorem Up.chg {hb : Heap} {Z} {s s' : Shared} (u : Up hb s) (c : Chg Z s s') (h : ∀ b, Z b → hb.get? b = none) : Up hb s' :=
  fun b o e => c.1 b o (u b o e) fun z => by rw [h b z] at e; cases e
theorem Up.ext {hb : Heap} {s s' : Shared} (u : Up hb s) (c : Ext s s') : Up hb s' := u.chg c fun _ h => h.elim

variable {K : Frag} {hb : Heap}
theorem Ev.glob {pos : Pos} {v : Value} (a : Am K hb) (u : Up hb s) (N : En env) (hx : env.kindOf x = some .globalImplicit) (e : nsIn K mainGlobals x = some (some v))
    (hd : (x == ("__debug__" : Str)) = false) : Ev M A (eval (.Name x pos) env) s (IsV v) :=
  fun s₁ y Q q => by
    obtain ⟨p, l, mg, mb, T⟩ := a.top
    have hk := u.ext y
    exact Name_function_global N.kind hx (loadGlobal_global (N.glob ▸ T.g.keeps hk) (mg_of a.kin T.g e) (q _ _ rfl .refl)) hd
theorem Ev.boot {pos : Pos} {v : Value} (a : Am K hb) (u : Up hb s) (N : En env) (hx : env.kindOf x = some .globalImplicit) (e : nsIn K mainGlobals x = some none)
    (hv : bootBuiltins x = some v) (hn : x ≠ "__name__")
    (hd : (x == ("__debug__" : Str)) = false) : Ev M A (eval (.Name x pos) env) s (IsV v) :=
  fun s₁ y Q q => by
    obtain ⟨p, l, mg, mb, T⟩ := a.top
    have hk := u.ext y
    exact Name_function_global N.kind hx (loadGlobal_builtin (N.glob ▸ T.g.keeps hk) (mg_none_of a.kin T.g e) (N.bi ▸ T.b.keeps hk) ((T.builtins x hn).trans hv) (q _ _ rfl .refl)) hd
end

/-! ## calls -/
noncomputable def EvL (M : Model) (A : Around) (es : List Expr) (pos : Pos) (env : Env) (s : Shared) (P : List Value → Shared → Prop) : Prop :=
  ∀ s₁, Ext s s₁ → ∀ Q : List Value → Shared → Prop, (∀ v s', P v s' → Ext s₁ s' → Q v s') → wpAny M A (spliced (backTo pos (starEach es env))) Q (fun _ _ => False) s₁
section
variable {M : Model} {A : Around} {s : Shared} {env : Env}
theorem EvL.nil {pos : Pos} : EvL M A [] pos env s (fun vs _ => vs = []) := fun s₁ x Q q => args_nil (q _ _ rfl .refl)
theorem EvL.cons {e : Expr} {es : List Expr} {pos : Pos} {P : Value → Shared → Prop} {R : List Value → Shared → Prop} (h : Ev M A (eval e env) s P) (t : EvL M A es pos env s R)
    (hP : ∀ v s₁ s₂, P v s₁ → Ext s₁ s₂ → P v s₂)
    (he : starEach (e :: es) env = (false, eval e env) :: starEach es env := by rfl) : EvL M A (e :: es) pos env s (fun vs s' => ∃ v r, vs = v :: r ∧ P v s' ∧ R r s') :=
  fun s₁ x Q q => args_cons (h s₁ x _ fun v s₂ p y => t s₂ (x.trans y) _ fun vs s₃ r z => q _ _ ⟨v, vs, rfl, hP _ _ _ p z, r⟩ (y.trans z)) he

theorem Ev.callB {f : Expr} {e : Expr} {es : List Expr} {pos : Pos} {id : String} {P : List Value → Shared → Prop} {R : Value → Shared → Prop}
    (hf : Ev M A (eval f env) s (IsV (.builtin id))) (ha : EvL M A (e :: es) pos env s P)
    (h : ∀ vs s', P vs s' → Ext s s' → Ev M A (call (.builtin id) vs) s' R)
    (he : eval (.Call f (e :: es) [] pos) env = (do callWith pos (← eval f env) [] (backTo pos (starEach (e :: es) env)) (backToKw pos (keywordEach [] env))) := by rfl)
    (he2 : starEach (e :: es) env = (false, eval e env) :: starEach es env := by rfl) (hp : (backTo pos (starEach es env)).any (·.1) = false := by rfl) :
    Ev M A (eval (.Call f (e :: es) [] pos) env) s R :=
  fun s₁ x Q q => Call_ (hf s₁ x _ fun fv s₂ ef y => by
    cases ef
    exact callWith_builtin1 (ha s₂ (x.trans y) _ fun vs s₃ p z => h vs s₃ p (x.trans (y.trans z)) s₃ .refl _ fun v s₄ r u => q v s₄ r (y.trans (z.trans u))) he2 hp) he
theorem Ev.callT {f : Expr} {e : Expr} {es : List Expr} {pos : Pos} {id : String} {P : List Value → Shared → Prop} {R : Value → Shared → Prop}
    (hf : Ev M A (eval f env) s (IsV (.type id))) (ha : EvL M A (e :: es) pos env s P)
    (h : ∀ vs s', P vs s' → Ext s s' → Ev M A (call (.type id) vs) s' R)
    (he : eval (.Call f (e :: es) [] pos) env = (do callWith pos (← eval f env) [] (backTo pos (starEach (e :: es) env)) (backToKw pos (keywordEach [] env))) := by rfl)
    (he2 : starEach (e :: es) env = (false, eval e env) :: starEach es env := by rfl) (hp : (backTo pos (starEach es env)).any (·.1) = false := by rfl) :
    Ev M A (eval (.Call f (e :: es) [] pos) env) s R :=
  fun s₁ x Q q => Call_ (hf s₁ x _ fun fv s₂ ef y => by
    cases ef
    exact PyProof.Rows.callWith_type1 (ha s₂ (x.trans y) _ fun vs s₃ p z => h vs s₃ p (x.trans (y.trans z)) s₃ .refl _ fun v s₄ r u => q v s₄ r (y.trans (z.trans u))) he2 hp) he
theorem Ev.callF {f : Expr} {e : Expr} {es : List Expr} {pos : Pos} {fa : Addr} {o : Obj} {fd : FuncData} {P : List Value → Shared → Prop} {R : Value → Shared → Prop}
    (hf : Ev M A (eval f env) s (IsV (.ref fa))) (ho : s.heap.get? fa = some o) (hd : o.data = .func fd) (ha : EvL M A (e :: es) pos env s P)
    (h : ∀ vs s', P vs s' → Ext s s' → Ev M A (call (.ref fa) vs) s' R)
    (he : eval (.Call f (e :: es) [] pos) env = (do callWith pos (← eval f env) [] (backTo pos (starEach (e :: es) env)) (backToKw pos (keywordEach [] env))) := by rfl)
    (he2 : starEach (e :: es) env = (false, eval e env) :: starEach es env := by rfl) :
    Ev M A (eval (.Call f (e :: es) [] pos) env) s R :=
  fun s₁ x Q q => Call_ (hf s₁ x _ fun fv s₂ ef y => by
    cases ef
    exact callWith_def hd (ha s₂ (x.trans y) _ fun vs s₃ p z => ⟨(x.trans (y.trans z)).1 _ _ ho fun h => h, h vs s₃ p (x.trans (y.trans z)) s₃ .refl _ fun v s₄ r u => q v s₄ r (y.trans (z.trans u))⟩) he2) he
/-- a call that stores: in the course of statements -/
theorem callF_wp {f : Expr} {e : Expr} {es : List Expr} {pos : Pos} {fa : Addr} {o : Obj} {fd : FuncData} {P : List Value → Shared → Prop} {Q : Value → Shared → Prop}
    (hf : Ev M A (eval f env) s (IsV (.ref fa))) (ho : s.heap.get? fa = some o) (hd : o.data = .func fd) (ha : EvL M A (e :: es) pos env s P)
    (h : ∀ vs s', P vs s' → Ext s s' → wpAny M A (call (.ref fa) vs) Q (fun _ _ => False) s')
    (he : eval (.Call f (e :: es) [] pos) env = (do callWith pos (← eval f env) [] (backTo pos (starEach (e :: es) env)) (backToKw pos (keywordEach [] env))) := by rfl)
    (he2 : starEach (e :: es) env = (false, eval e env) :: starEach es env := by rfl) :
    wpAny M A (eval (.Call f (e :: es) [] pos) env) Q (fun _ _ => False) s :=
  Call_ (hf s .refl _ fun fv s₂ ef y => by
    cases ef
    exact callWith_def hd (ha s₂ y _ fun vs s₃ p z => ⟨(y.trans z).1 _ _ ho fun h => h, h vs s₃ p (y.trans z)⟩) he2) he
end
end Mine
end
-- Fw3
section
open PySem PySem.W PyProof.Rows PySem.Calls
set_option Elab.async false
set_option maxRecDepth 100000
set_option linter.unusedVariables false
namespace Mine

/-! ## lists -/
noncomputable def LV (h : Heap) (a : Addr) (n : Nat) (P : Nat → Value → Prop) : Prop := ∃ vs : Array Value, h.IsList a vs ∧ vs.size = n ∧ ∀ i v, vs[i]? = some v → P i v
abbrev LI (h : Heap) (a : Addr) (n : Nat) (f : Nat → Int) : Prop := LV h a n fun i v => ∃ t, v = .int (f i) t
abbrev LR (h : Heap) (a : Addr) (n : Nat) (r : Nat → Addr) : Prop := LV h a n fun i v => v = .ref (r i)
theorem LV.keep {h h' a n P} (L : LV h a n P) (k : ∀ o, h.get? a = some o → h'.get? a = some o) : LV h' a n P := by
  obtain ⟨vs, ⟨o, ho, r⟩, z⟩ := L; exact ⟨vs, ⟨o, k o ho, r⟩, z⟩
theorem LV.chg {s s' : Shared} {a n P Z} (L : LV s.heap a n P) (c : Chg Z s s') (h : ¬ Z a) : LV s'.heap a n P := L.keep fun o e => c.1 a o e h
theorem LV.ext {s s' : Shared} {a n P} (L : LV s.heap a n P) (c : Ext s s') : LV s'.heap a n P := L.chg c fun h => h
theorem LV.imp {h a n P P'} (L : LV h a n P) (k : ∀ i v, i < n → P i v → P' i v) : LV h a n P' := by
  obtain ⟨vs, l, z, q⟩ := L
  exact ⟨vs, l, z, fun i v e => k i v (z ▸ (Array.getElem?_eq_some_iff.mp e).1) (q i v e)⟩
theorem LV.ne {h a n P} (L : LV h a n P) : h.get? a ≠ none := by obtain ⟨vs, ⟨o, ho, r⟩, z⟩ := L; exact some_ne ho
theorem LV.seq {h a n P} (L : LV h a n P) : ∃ o xs k, h.get? a = some o ∧ o.data = .seq xs k := by
  obtain ⟨vs, ⟨o, ho, hc, k, hd⟩, z⟩ := L; exact ⟨o, vs, k, ho, hd⟩
theorem LV.notOwn {env h ρ a n P} (F : Fm env h ρ) (L : LV h a n P) : ¬ Own env a := fun q => by
  obtain ⟨o, xs, k, ho, hd⟩ := L.seq; exact F.notSeq q ho hd
theorem LV.at {h a n P} (L : LV h a n P) : ∃ vs : Array Value, h.IsList a vs ∧ vs.size = n ∧ (∀ i v, vs[i]? = some v → P i v) ∧ ∀ i, i < n → ∃ v, vs[i]? = some v := by
  obtain ⟨vs, l, z, q⟩ := L; exact ⟨vs, l, z, q, fun i hi => ⟨vs[i]'(z ▸ hi), by simp [z, hi]⟩⟩

noncomputable def IsTupV (h : Heap) (a : Addr) (vs : List Value) : Prop := IsTup h a vs.toArray

section
variable {prog : Program} {w : World} {A : Around} {s : Shared} {env : Env}

theorem Ev.item {value slice : Expr} {pos : Pos} {a : Addr} {k : Int} {n : Nat} {P : Nat → Value → Prop} (ho : Ev (model prog w) A (eval value env) s (IsV (.ref a)))
    (hi : Ev (model prog w) A (eval slice env) s (IsI k)) (hl : LV s.heap a n P) (h0 : 0 ≤ k) (hn : k < n) (hb : (n : Int) < 2 ^ 62)
    (hs : ∀ l k u, subscripted slice false (.ref l) (.int k u) = operate [.ref l, .int k u] (getItem (.ref l) (.int k u)) := by intros; with_unfolding_all rfl) :
    Ev (model prog w) A (eval (.Subscript value slice pos) env) s (fun v _ => P k.toNat v) :=
  fun s₁ x Q q => Subscript_ (ho s₁ x _ fun o s₂ eo y => hi s₂ (x.trans y) _ fun i s₃ ei z => by
    obtain ⟨t, rfl⟩ := ei; cases eo
    obtain ⟨vs, l, hz, hP, hat⟩ := (hl.ext (x.trans (y.trans z))).at
    obtain ⟨v, hv⟩ := hat k.toNat (by omega)
    exact tail_any l.typeIs slot_list_getitem.lookup (wpAny_getItem_list l h0 (by omega) hv (q _ _ (hP _ _ hv) (y.trans z))) (hs _ _ _))

theorem Ev.itemT {value slice : Expr} {pos : Pos} {a : Addr} {k : Nat} {vs : List Value} {v : Value} (ho : Ev (model prog w) A (eval value env) s (IsV (.ref a)))
    (hi : Ev (model prog w) A (eval slice env) s (IsI (k : Int))) (hl : IsTup s.heap a vs.toArray) (hv : vs[k]? = some v) (hb : k < 2 ^ 62)
    (hs : ∀ l k u, subscripted slice false (.ref l) (.int k u) = operate [.ref l, .int k u] (getItem (.ref l) (.int k u)) := by intros; with_unfolding_all rfl) :
    Ev (model prog w) A (eval (.Subscript value slice pos) env) s (IsV v) :=
  fun s₁ x Q q => Subscript_ (ho s₁ x _ fun o s₂ eo y => hi s₂ (x.trans y) _ fun i s₃ ei z => by
    obtain ⟨t, rfl⟩ := ei; cases eo
    have hk : k < vs.length := (List.getElem?_eq_some_iff.mp hv).1
    refine item_tupleT (j := k) (hl.keeps (x.trans (y.trans z)).all) (by (with_reducible exact Mine.castLo (by decide))) (by omega) ?_ hv (q _ _ rfl (y.trans z)) (hs _ _ _)
    simp only [seqIndex?]
    simp
    omega)

/-! ## builtins -/
theorem Ev.len {a n P} (L : LV s.heap a n P) (hb : (n : Int) < 2 ^ 62) : Ev (model prog w) A (call (.builtin "len") [.ref a]) s (IsI n) :=
  fun s₁ x Q q => by
    obtain ⟨vs, l, hz, hP⟩ := L.ext x
    exact call_len_list l (by omega) (q _ _ ⟨_, by rw [hz]⟩ .toks)
theorem Ev.abs {k : Int} {t : Tok} : Ev (model prog w) A (call (.builtin "abs") [.int k t]) s (IsI (if k < 0 then -k else k)) :=
  fun s₁ x Q q => call_abs_int fun u tk => q _ _ ⟨u, rfl⟩ .toks
theorem Ev.neg {e : Expr} {pos : Pos} {a : Int} (h : Ev (model prog w) A (eval e env) s (IsI a)) : Ev (model prog w) A (eval (.UnaryOp .USub e pos) env) s (IsI (-a)) :=
  fun s₁ x Q q => wpAny_UnaryOp (h s₁ x _ fun v s₂ ev y => by obtain ⟨t, rfl⟩ := ev; exact neg_int (q _ _ ⟨_, rfl⟩ (y.trans Ext.toks)))

/-! ## tests -/
noncomputable def Tst (M : Model) (A : Around) (e : Expr) (env : Env) (s : Shared) (b : Bool) : Prop :=
  ∀ s₁, Ext s s₁ → ∀ Q : Bool → Shared → Prop, (∀ s', Ext s₁ s' → Q b s') → wpAny M A (isTrue e env (eval e env)) Q (fun _ _ => False) s₁
theorem Tst.up {M : Model} {e : Expr} {b : Bool} {s' : Shared} (h : Tst M A e env s b) (x : Ext s s') : Tst M A e env s' b := fun s₁ y Q q => h s₁ (x.trans y) Q q
theorem Tst.cmp {l r : Expr} {op : CmpOp} {pos : Pos} {P R : Value → Shared → Prop} {b : Bool}
    (hl : Ev (model prog w) A (eval l env) s P) (hr : Ev (model prog w) A (eval r env) s R)
    (hP : ∀ v s₁ s₂, P v s₁ → Ext s₁ s₂ → P v s₂)
    (h : ∀ x y s', P x s' → R y s' → Ext s s' → Ev (model prog w) A (compareOp op x y) s' (IsB b))
    (hm : behindInMarks op r = false := by with_unfolding_all rfl) : Tst (model prog w) A (.Compare l [op] [r] pos) env s b :=
  fun s₁ x Q q => wpAny_isTrue_Compare1 (hl s₁ x _ fun a s₂ pa y => hr s₂ (x.trans y) _ fun c s₃ rb z =>
    h a c s₃ (hP _ _ _ pa z) rb (x.trans (y.trans z)) s₃ .refl _ fun v s' sv u => by cases sv; exact wpAny_truthy_bool (q _ (y.trans (z.trans u)))) hm
theorem Ev.ofIsB {t : Sem Value} {b : Bool} (h : ∀ (s : Shared) (E : Value → Shared → Prop) (Q : Value → Shared → Prop), Q (.bool b) s → wpAny (model prog w) A t Q E s) : Ev (model prog w) A t s (IsB b) :=
  fun s₁ x Q q => h s₁ _ Q (q _ _ rfl .refl)
theorem Tst.lt {l r : Expr} {pos : Pos} {a b : Int} (hl : Ev (model prog w) A (eval l env) s (IsI a)) (hr : Ev (model prog w) A (eval r env) s (IsI b))
    (hm : behindInMarks .Lt r = false := by with_unfolding_all rfl) : Tst (model prog w) A (.Compare l [.Lt] [r] pos) env s (decide (a < b)) :=
  .cmp hl hr IsI.mono (fun _ _ _ ⟨_, ea⟩ ⟨_, eb⟩ _ => by subst ea eb; exact .ofIsB fun _ _ _ h => lt_int h) hm
theorem Tst.gt {l r : Expr} {pos : Pos} {a b : Int} (hl : Ev (model prog w) A (eval l env) s (IsI a)) (hr : Ev (model prog w) A (eval r env) s (IsI b))
    (hm : behindInMarks .Gt r = false := by with_unfolding_all rfl) : Tst (model prog w) A (.Compare l [.Gt] [r] pos) env s (decide (b < a)) :=
  .cmp hl hr IsI.mono (fun _ _ _ ⟨_, ea⟩ ⟨_, eb⟩ _ => by subst ea eb; exact .ofIsB fun _ _ _ h => gt_int h) hm
theorem Tst.eq {l r : Expr} {pos : Pos} {a b : Int} (hl : Ev (model prog w) A (eval l env) s (IsI a)) (hr : Ev (model prog w) A (eval r env) s (IsI b))
    (hm : behindInMarks .Eq r = false := by with_unfolding_all rfl) : Tst (model prog w) A (.Compare l [.Eq] [r] pos) env s (a == b) :=
  .cmp hl hr IsI.mono (fun _ _ _ ⟨_, ea⟩ ⟨_, eb⟩ _ => by subst ea eb; exact .ofIsB fun _ _ _ h => eq_int h) hm
theorem Tst.ne {l r : Expr} {pos : Pos} {a b : Int} (hl : Ev (model prog w) A (eval l env) s (IsI a)) (hr : Ev (model prog w) A (eval r env) s (IsI b))
    (hm : behindInMarks .NotEq r = false := by with_unfolding_all rfl) : Tst (model prog w) A (.Compare l [.NotEq] [r] pos) env s (a != b) :=
  .cmp hl hr IsI.mono (fun _ _ _ ⟨_, ea⟩ ⟨_, eb⟩ _ => by subst ea eb; exact .ofIsB fun _ _ _ h => ne_int h) hm
theorem plainIs_none (v : Value) (h : v = .none ∨ ∃ a, v = .ref a) : PySem.plainIs v .none = true := by
  rcases h with rfl | ⟨a, rfl⟩ <;> rfl
theorem plainIs_none_int (n : Int) (t : Tok) : PySem.plainIs (.int n t) .none = true := rfl
theorem Tst.isNone {l r : Expr} {pos : Pos} {v : Value} (hl : Ev (model prog w) A (eval l env) s (IsV v)) (hr : Ev (model prog w) A (eval r env) s (IsV .none))
    (hv : PySem.plainIs v .none = true) (hm : behindInMarks .Is r = false := by with_unfolding_all rfl) : Tst (model prog w) A (.Compare l [.Is] [r] pos) env s (v == .none) :=
  .cmp hl hr IsV.mono (fun _ _ _ ea eb _ => by cases ea; cases eb; exact .ofIsB fun _ _ _ h => wpAny_is_plain hv h) hm
theorem Tst.isNotNone {l r : Expr} {pos : Pos} {v : Value} (hl : Ev (model prog w) A (eval l env) s (IsV v)) (hr : Ev (model prog w) A (eval r env) s (IsV .none))
    (hv : PySem.plainIs v .none = true) (hm : behindInMarks .IsNot r = false := by with_unfolding_all rfl) : Tst (model prog w) A (.Compare l [.IsNot] [r] pos) env s (!(v == .none)) :=
  .cmp hl hr IsV.mono (fun _ _ _ ea eb _ => by cases ea; cases eb; exact .ofIsB fun _ _ _ h => wpAny_isNot_plain hv h) hm
theorem Tst.not {e : Expr} {pos : Pos} {b : Bool} (h : Tst (model prog w) A e env s b) : Tst (model prog w) A (.UnaryOp .Not e pos) env s (!b) :=
  fun s₁ x Q q => wpAny_isTrue_Not (h s₁ x _ fun s' y => q _ y)
theorem Tst.value {e : Expr} {b : Bool} (h : Ev (model prog w) A (eval e env) s (IsB b))
    (he : ∀ whole, isTrue e env whole = (do let v ← whole; standAt e.pos; holding [v] (truthy v)) := by intro; rfl) : Tst (model prog w) A e env s b :=
  fun s₁ x Q q => wpAny_isTrue_value (h s₁ x _ fun v s' ev y => by cases ev; exact wpAny_truthy_bool (q _ y)) (he _)
theorem Tst.and {e f : Expr} {pos : Pos} {b c : Bool} (h : Tst (model prog w) A e env s b) (h' : b = true → Tst (model prog w) A f env s c) :
    Tst (model prog w) A (.BoolOp .And [e, f] pos) env s (b && c) :=
  fun s₁ x Q q => wpAny_isTrue_BoolOp (wpAny_allTrue_And_cons (h s₁ x _ fun s₂ y => by
    cases b with
    | false => simp only [Bool.false_eq_true, if_false]; exact q _ y
    | true =>
      simp only [if_true]
      refine wpAny_allTrue_And_cons (h' rfl s₂ (x.trans y) _ fun s₃ z => ?_)
      cases c with
      | false => simp only [Bool.false_eq_true, if_false]; exact q _ (y.trans z)
      | true => simp only [if_true]; exact wpAny_allTrue_And_nil (q _ (y.trans z))))
theorem Tst.or {e f : Expr} {pos : Pos} {b c : Bool} (h : Tst (model prog w) A e env s b) (h' : b = false → Tst (model prog w) A f env s c) :
    Tst (model prog w) A (.BoolOp .Or [e, f] pos) env s (b || c) :=
  fun s₁ x Q q => wpAny_isTrue_BoolOp (wpAny_allTrue_Or_cons (h s₁ x _ fun s₂ y => by
    cases b with
    | true => simp only [if_true]; exact q _ y
    | false =>
      simp only [Bool.false_eq_true, if_false]
      refine wpAny_allTrue_Or_cons (h' rfl s₂ (x.trans y) _ fun s₃ z => ?_)
      cases c with
      | true => simp only [if_true]; exact q _ (y.trans z)
      | false => simp only [Bool.false_eq_true, if_false]; exact wpAny_allTrue_Or_nil (q _ (y.trans z))))
theorem Ev.ofTst {l r : Expr} {op : CmpOp} {pos : Pos} {P R : Value → Shared → Prop} {b : Bool}
    (hl : Ev (model prog w) A (eval l env) s P) (hr : Ev (model prog w) A (eval r env) s R)
    (hP : ∀ v s₁ s₂, P v s₁ → Ext s₁ s₂ → P v s₂)
    (h : ∀ x y s', P x s' → R y s' → Ext s s' → Ev (model prog w) A (compareOp op x y) s' (IsB b))
    (hm : behindInMarks op r = false := by with_unfolding_all rfl) : Ev (model prog w) A (eval (.Compare l [op] [r] pos) env) s (IsB b) := .cmp hl hr hP h hm
theorem Ev.ite {t b o : Expr} {pos : Pos} {c : Bool} {P : Value → Shared → Prop} (ht : Tst (model prog w) A t env s c)
    (hb : c = true → Ev (model prog w) A (eval b env) s P) (ho : c = false → Ev (model prog w) A (eval o env) s P) : Ev (model prog w) A (eval (.IfExp t b o pos) env) s P :=
  fun s₁ x Q q => wpAny_IfExp (ht s₁ x _ fun s₂ y => by
    cases c with
    | true => exact hb rfl s₂ (x.trans y) _ fun v s' p z => q v s' p (y.trans z)
    | false => exact ho rfl s₂ (x.trans y) _ fun v s' p z => q v s' p (y.trans z))
theorem If_wp {t : Expr} {b o : List Stmt} {pos : Pos} {c : Bool} {Q : Flow → Shared → Prop} (ht : Tst (model prog w) A t env s c)
    (hb : c = true → ∀ s', Ext s s' → wpAny (model prog w) A (execs b env) Q (fun _ _ => False) s') (ho : c = false → ∀ s', Ext s s' → wpAny (model prog w) A (execs o env) Q (fun _ _ => False) s') :
    wpAny (model prog w) A (exec (.If t b o pos) env) Q (fun _ _ => False) s :=
  wpAny_If (ht s .refl _ fun s₂ y => by
    cases c with
    | true => exact hb rfl s₂ y
    | false => exact ho rfl s₂ y)
end
end Mine
end
-- Fw4
section
open PySem PySem.W PyProof.Rows PySem.Calls
set_option Elab.async false
set_option maxRecDepth 100000
set_option linter.unusedVariables false
namespace Mine

/-! ## iterators -/
noncomputable def tgOk (env : Env) : Expr → Bool
  | .Name x _ => stOk env x
  | .Tuple [.Name x _, .Name y _] _ _ => stOk env x && stOk env y
  | _ => false

noncomputable def TgE (env : Env) : Expr → Addr → Prop
  | .Name x _, b => TgA env x b
  | .Tuple [.Name x _, .Name y _] _ _, b => TgA env x b ∨ TgA env y b
  | _, _ => False
theorem TgE.own {env : Env} : ∀ {t : Expr} {b}, TgE env t b → Own env b := by
  intro t b h
  unfold TgE at h
  split at h
  · exact h.own
  · exact h.elim TgA.own TgA.own
  · exact h.elim

structure Iter (prog : Program) (w : World) (A : Around) (target : Expr) (I : Addr) (fp own : Addr → Prop) (n : Nat)
    (Bd : Nat → (Str → Option Value) → (Str → Option Value) → Prop) (St : Nat → Shared → Prop) : Prop where
  frame : ∀ i s s', St i s → (∀ b o, fp b → s.heap.get? b = some o → s'.heap.get? b = some o) → St i s'
  turn : ∀ (env : Env) i s ρ (Q : Shared → Prop), En env → tgOk env target = true → i < n → St i s → Fm env s.heap ρ → (∀ b, fp b → ¬ Own env b) →
     (∀ s' ρ', Bd i ρ ρ' → Fm env s'.heap ρ' → St (i+1) s' → Chg (fun b => own b ∨ TgE env target b) s s' → Q s') →
     wpAny (model prog w) A (pyNext (.ref I)) (fun r s₁ => match r with
       | none => False
       | some v => wpAny (model prog w) A (letOwnedTupleGo target (.ref I) v) (fun _ s₂ => wpAny (model prog w) A (assign target env v) (fun _ s₃ => Q s₃) (fun _ _ => False) s₂) (fun _ _ => False) s₁) (fun _ _ => False) s
  done : ∀ s (Q : Shared → Prop), A.handled = none → St n s → (∀ s', (∀ b o, s.heap.get? b = some o → ¬ own b → s'.heap.get? b = some o) → (∀ Z s₀, Chg Z s₀ s → (∀ b, own b → s₀.heap.get? b = none) → Chg Z s₀ s') → Q s') →
     wpAny (model prog w) A (pyNext (.ref I)) (fun r s₁ => r = none ∧ Q s₁) (fun _ _ => False) s
  self : ∀ i s (Q : Value → Shared → Prop) E, St i s → Q (.ref I) s → wpAny (model prog w) A (pyIter (.ref I)) Q E s
  fld : ∀ i s, St i s → ∀ b, own b → ∃ o xs, s.heap.get? b = some o ∧ o.data = .fields xs
  ownI : ∀ b, own b → fp b
  kd : ∀ i s, St i s → ∀ b, fp b → ∃ o, s.heap.get? b = some o ∧ ((∃ xs, o.data = .fields xs) ∨ ∃ xs k, o.data = .seq xs k)

theorem Iter.ex {prog w A target I fp own n Bd St} (W : Iter prog w A target I fp own n Bd St) {i s} (h : St i s) {b : Addr} (hb : fp b) : s.heap.get? b ≠ none := by obtain ⟨o, ho, _⟩ := W.kd i s h b hb; exact some_ne ho
theorem Iter.notOwn {prog w A target I fp own n Bd St} {env : Env} {ρ} (W : Iter prog w A target I fp own n Bd St) {i s} (h : St i s) (F : Fm env s.heap ρ) {b : Addr} (hb : fp b) : ¬ Own env b := fun q => by
  obtain ⟨o, ho, ⟨xs, hd⟩ | ⟨xs, k, hd⟩⟩ := W.kd i s h b hb
  · exact F.notFields q ho hd
  · exact F.notSeq q ho hd
theorem IsListIter.fldD {h : Heap} {I l i} (x : h.IsListIter I l i) : ∃ o xs, h.get? I = some o ∧ o.data = .fields xs := let ⟨o, ho, _, hd⟩ := x; ⟨o, _, ho, hd⟩

section
variable {prog : Program} {w : World} {A : Around}

noncomputable def BdN (x : Str) (P : Nat → Value → Prop) : Nat → (Str → Option Value) → (Str → Option Value) → Prop := fun i ρ ρ' => ∃ v, P i v ∧ ρ' = upd ρ x v
noncomputable def BdE (x y : Str) (P : Nat → Value → Prop) : Nat → (Str → Option Value) → (Str → Option Value) → Prop := fun i ρ ρ' => ∃ v t, P i v ∧ ρ' = upd (upd ρ x (.int i t)) y v

theorem iter_list {x : Str} {px : Pos} {I l : Addr} {n : Nat} {P : Nat → Value → Prop} (hIl : I ≠ l) :
    Iter prog w A (.Name x px) I (fun b => b = I ∨ b = l) (fun b => b = I) n (BdN x P) (fun i s => s.heap.IsListIter I l i ∧ LV s.heap l n P) where
  frame := fun i s s' ⟨h1, h2⟩ k => ⟨h1.at fun o e => k _ o (.inl rfl) e, h2.keep fun o e => k _ o (.inr rfl) e⟩
  turn := fun env i s ρ Q N tg hi ⟨h1, h2⟩ F hfp q => by
    obtain ⟨vs, hl, hz, hP, hat⟩ := h2.at
    obtain ⟨v, hv⟩ := hat i hi
    refine wpAny_pyNext_list_item h1 hl hv fun h' hit hs => ?_
    refine wpAny_pure ?_
    have c1 : Chg (fun b => b = I) s { s with heap := h' } := Chg.same hs (by obtain ⟨o, ho, _⟩ := hit; exact some_ne ho)
    have F1 : Fm env h' ρ := F.chg c1 fun b hb e => hfp I (.inl rfl) (e ▸ hb)
    refine wpAny_assign_Name (Fm.store (s := { s with heap := h' }) F1 N tg fun s' F2 c2 => q s' _ ⟨v, hP i v hv, rfl⟩ F2 ⟨?_, ?_⟩ ?_)
    · exact hit.at fun o e => c2.1 _ o e fun z => hfp I (.inl rfl) z.own
    · exact h2.keep fun o e => c2.1 _ o (c1.1 _ o e (Ne.symm hIl)) fun z => hfp l (.inr rfl) z.own
    · exact (c1.mono fun b e => .inl e).trans (c2.mono fun b e => .inr e)
  done := fun s Q hh ⟨h1, h2⟩ q => by
    obtain ⟨vs, hl, hz, hP⟩ := h2
    refine wpAny_pyNext_list_end hh h1 hl (by simp [hz]) fun h' hs => ⟨rfl, q _ (fun b o e n => hs b o n e) fun Z s₀ c hn => c.extNew hs (hn I rfl)⟩
  self := fun i s Q E ⟨h1, h2⟩ q => wpAny_pyIter_listiter h1 q
  fld := fun i s ⟨h1, h2⟩ b e => by subst e; exact IsListIter.fldD h1
  ownI := fun b e => .inl e
  kd := fun i s ⟨⟨o, ho, _, hd⟩, h2⟩ b e => by rcases e with rfl | rfl; exact ⟨o, ho, .inl ⟨_, hd⟩⟩; obtain ⟨o2, xs, k, e, h⟩ := h2.seq; exact ⟨o2, e, .inr ⟨xs, k, h⟩⟩

theorem iter_range {x : Str} {px : Pos} {I : Addr} {n : Nat} {lo : Int} :
    Iter prog w A (.Name x px) I (fun b => b = I) (fun b => b = I) n (BdN x fun i v => ∃ t, v = .int (lo + i) t) (fun i s => IsRangeIter s.heap I (lo + (i : Nat)) ((n : Int) - (i : Nat)) 1) where
  frame := fun i s s' h1 k => k _ _ rfl h1
  turn := fun env i s ρ Q N tg hi h1 F hfp q => by
    refine wpAny_pyNext_range_item h1 (by omega) fun h' hit hs => ?_
    refine wpAny_pure ?_
    have c1 : Chg (fun b => b = I) s { s with heap := h', toks := s.toks + 1 } := Chg.same hs (some_ne hit)
    have F1 : Fm env h' ρ := F.chg c1 fun b hb e => hfp I rfl (e ▸ hb)
    refine wpAny_assign_Name (Fm.store (s := { s with heap := h', toks := s.toks + 1 }) F1 N tg fun s' F2 c2 => q s' _ ⟨_, ⟨_, rfl⟩, rfl⟩ F2 ?_ ?_)
    · have e1 : lo + (i : Int) + 1 = lo + ((i + 1 : Nat) : Int) := by omega
      have e2 : (n : Int) - (i : Int) - 1 = (n : Int) - ((i + 1 : Nat) : Int) := by omega
      rw [e1, e2] at hit
      exact c2.1 _ _ hit fun z => hfp I rfl z.own
    · exact (c1.mono fun b e => .inl e).trans (c2.mono fun b e => .inr e)
  done := fun s Q hh h1 q => by
    refine wpAny_pyNext_range_end hh h1 (by omega) fun h' hs => ⟨rfl, q _ (fun b o e n => hs b o n e) fun Z s₀ c hn => c.extNew hs (hn I rfl)⟩
  self := fun i s Q E h1 q => wpAny_pyIter_rangeiter h1 q
  fld := fun i s h1 b e => by subst e; exact ⟨_, _, h1, rfl⟩
  ownI := fun b e => e
  kd := fun i s h1 b e => by subst e; exact ⟨_, h1, .inl ⟨_, rfl⟩⟩

theorem iter_tuple {x : Str} {px : Pos} {I l : Addr} {vs : List Value} (hIl : I ≠ l) :
    Iter prog w A (.Name x px) I (fun b => b = I ∨ b = l) (fun b => b = I) vs.length (BdN x fun i v => vs[i]? = some v) (fun i s => s.heap.IsTupleIter I l i ∧ s.heap.IsTuple l vs.toArray) where
  frame := fun i s s' ⟨⟨o, h1, r⟩, ⟨o2, h2, r2⟩⟩ k => ⟨⟨o, k _ o (.inl rfl) h1, r⟩, ⟨o2, k _ o2 (.inr rfl) h2, r2⟩⟩
  turn := fun env i s ρ Q N tg hi ⟨h1, h2⟩ F hfp q => by
    refine wpAny_pyNext_tuple_item h1 h2 (x := vs[i]'hi) (by simp) fun h' hit hs => ?_
    refine wpAny_pure ?_
    have c1 : Chg (fun b => b = I) s { s with heap := h' } := Chg.same hs (by obtain ⟨o, ho, _⟩ := hit; exact some_ne ho)
    have F1 : Fm env h' ρ := F.chg c1 fun b hb e => hfp I (.inl rfl) (e ▸ hb)
    refine wpAny_assign_Name (Fm.store (s := { s with heap := h' }) F1 N tg fun s' F2 c2 => q s' _ ⟨vs[i]'hi, by simp, rfl⟩ F2 ⟨?_, ?_⟩ ?_)
    · obtain ⟨o, ho, r⟩ := hit; exact ⟨o, c2.1 _ o ho fun z => hfp I (.inl rfl) z.own, r⟩
    · obtain ⟨o, ho, r⟩ := h2; exact ⟨o, c2.1 _ o (c1.1 _ o ho (Ne.symm hIl)) fun z => hfp l (.inr rfl) z.own, r⟩
    · exact (c1.mono fun b e => .inl e).trans (c2.mono fun b e => .inr e)
  done := fun s Q hh ⟨h1, h2⟩ q => by
    refine wpAny_pyNext_tuple_end hh h1 h2 (by simp) fun h' hs => ⟨rfl, q _ (fun b o e n => hs b o n e) fun Z s₀ c hn => c.extNew hs (hn I rfl)⟩
  self := fun i s Q E ⟨h1, h2⟩ q => wpAny_pyIter_tupleiter h1 q
  fld := fun i s ⟨⟨o, ho, _, hd⟩, h2⟩ b e => by subst e; exact ⟨o, _, ho, hd⟩
  ownI := fun b e => .inl e
  kd := fun i s ⟨⟨o, ho, _, hd⟩, ⟨o2, ho2, _, k, hd2⟩⟩ b e => by rcases e with rfl | rfl; exact ⟨o, ho, .inl ⟨_, hd⟩⟩; exact ⟨o2, ho2, .inr ⟨_, k, hd2⟩⟩
end

/-- how the evaluation of an iterable ends: the base addresses that the iterator reads are among B -/
noncomputable def ItEv (prog : Program) (w : World) (A : Around) (env : Env) (target iter : Expr) (s : Shared) (B : Addr → Prop) (n : Nat)
    (Bd : Nat → (Str → Option Value) → (Str → Option Value) → Prop) : Prop :=
  ∀ s₁, Ext s s₁ → ∀ Q : Value → Shared → Prop, (∀ I fp own St s', Iter prog w A target I fp own n Bd St → St 0 s' → Ext s₁ s' → (∀ b, own b → s₁.heap.get? b = none) → (∀ b, fp b → own b ∨ B b) → Q (.ref I) s') →
    wpAny (model prog w) A (eval iter env) (fun x s₂ => wpAny (model prog w) A (pyIter x) Q (fun _ _ => False) s₂) (fun _ _ => False) s₁

section
variable {prog : Program} {w : World} {A : Around} {env : Env} {s : Shared}
theorem ItEv.list {x : Str} {px : Pos} {iter : Expr} {l : Addr} {n : Nat} {P : Nat → Value → Prop} (h : Ev (model prog w) A (eval iter env) s (IsV (.ref l))) (L : LV s.heap l n P) :
    ItEv prog w A env (.Name x px) iter s (fun b => b = l) n (BdN x P) :=
  fun s₁ y Q q => h s₁ y _ fun v s₂ ev z => by
    cases ev
    have L2 := L.ext (y.trans z)
    obtain ⟨vs, hl, r⟩ := id L2
    refine wpAny_pyIter_list hl (q _ _ _ _ _ (iter_list (l := l) (n := n) (P := P) fun e => ?_) ⟨⟨_, Heap.get?_push_size _ rfl, rfl, rfl⟩, ?_⟩ (z.trans Ext.push) ?_ ?_)
    · exact L2.ne (by rw [← e]; exact size_none _)
    · exact L2.ext Ext.push
    · rintro b rfl; exact z.2 _ (size_none _)
    · exact fun b h => h
/-- a list that the evaluation makes -/
theorem ItEv.listNew {x : Str} {px : Pos} {iter : Expr} {n : Nat} {P : Nat → Value → Prop} (h : Ev (model prog w) A (eval iter env) s (fun v s' => ∃ l, v = .ref l ∧ s.heap.get? l = none ∧ LV s'.heap l n P)) :
    ItEv prog w A env (.Name x px) iter s (fun b => s.heap.get? b = none) n (BdN x P) :=
  fun s₁ y Q q => h s₁ y _ fun v s₂ ev z => by
    obtain ⟨l, rfl, hn, L2⟩ := ev
    obtain ⟨vs, hl, r⟩ := id L2
    refine wpAny_pyIter_list hl (q _ _ _ _ _ (iter_list (l := l) (n := n) (P := P) fun e => ?_) ⟨⟨_, Heap.get?_push_size _ rfl, rfl, rfl⟩, ?_⟩ (z.trans Ext.push) ?_ ?_)
    · exact L2.ne (by rw [← e]; exact size_none _)
    · exact L2.ext Ext.push
    · rintro b rfl; exact z.2 _ (size_none _)
    · rintro b (rfl | rfl)
      · exact .inl rfl
      · exact .inr hn
theorem ItEv.tuple {x : Str} {px : Pos} {iter : Expr} {vs : List Value} (h : Ev (model prog w) A (eval iter env) s (fun v s' => ∃ l, v = .ref l ∧ s.heap.get? l = none ∧ s'.heap.IsTuple l vs.toArray)) :
    ItEv prog w A env (.Name x px) iter s (fun b => s.heap.get? b = none) vs.length (BdN x fun i v => vs[i]? = some v) :=
  fun s₁ y Q q => h s₁ y _ fun v s₂ ev z => by
    obtain ⟨l, rfl, hn, L2⟩ := ev
    refine wpAny_pyIter_tuple L2 (q _ _ _ _ _ (iter_tuple (l := l) (vs := vs) fun e => ?_) ⟨⟨_, Heap.get?_push_size _ rfl, rfl, rfl⟩, ?_⟩ (z.trans Ext.push) ?_ ?_)
    · obtain ⟨o, ho, _⟩ := L2; exact some_ne ho (by rw [← e]; exact size_none _)
    · exact L2.push _
    · rintro b rfl; exact z.2 _ (size_none _)
    · rintro b (rfl | rfl)
      · exact .inl rfl
      · exact .inr hn
theorem ItEv.range {x : Str} {px : Pos} {iter : Expr} {lo hi : Int} (h : Ev (model prog w) A (eval iter env) s (fun v s' => ∃ r a t u, v = .ref r ∧ IsRange s'.heap r lo hi 1 a t u)) (hlo : -(2 ^ 61) ≤ lo) (hlo2 : lo < 2 ^ 61) (hhi : hi < 2 ^ 61) (hhi2 : -(2 ^ 61) ≤ hi) :
    ItEv prog w A env (.Name x px) iter s (fun b => False) (hi - lo).toNat (BdN x fun i v => ∃ t, v = .int (lo + i) t) :=
  fun s₁ y Q q => h s₁ y _ fun v s₂ ev z => by
    obtain ⟨r, a, t, u, rfl, hr⟩ := ev
    refine wpAny_pyIter_range hr (small_one (by omega) (by omega) (by omega) (by omega)) (q _ _ _ _ _ (iter_range (lo := lo)) ?_ (z.trans Ext.push) ?_ ?_)
    · rw [rangeSize_one]
      have e : (if lo < hi then hi - lo else 0) = (((hi - lo).toNat : Nat) : Int) - ((0 : Nat) : Int) := by split <;> omega
      have e2 : lo = lo + ((0 : Nat) : Int) := by omega
      show Heap.get? _ _ = _
      rw [e, ← e2]
      exact Heap.get?_push_size _ rfl
    · rintro b rfl; exact z.2 _ (size_none _)
    · rintro b rfl; exact .inl rfl
end
end Mine
end
-- Fw5
section
open PySem PySem.W PyProof.Rows PySem.Calls
set_option Elab.async false
set_option maxRecDepth 100000
set_option linter.unusedVariables false
namespace Mine

noncomputable def IsRg (lo hi : Int) : Value → Shared → Prop := fun v s' => ∃ r a t u, v = .ref r ∧ IsRange s'.heap r lo hi 1 a t u
section
variable {prog : Program} {w : World} {A : Around} {s : Shared} {env : Env}
theorem Ev.range2 {f e₁ e₂ : Expr} {pos : Pos} {lo hi : Int} (hf : Ev (model prog w) A (eval f env) s (IsV (.type "range"))) (h1 : Ev (model prog w) A (eval e₁ env) s (IsI lo)) (h2 : Ev (model prog w) A (eval e₂ env) s (IsI hi))
    (he : eval (.Call f [e₁, e₂] [] pos) env = (do callWith pos (← eval f env) [] (backTo pos (starEach [e₁, e₂] env)) (backToKw pos (keywordEach [] env))) := by rfl)
    (he2 : starEach [e₁, e₂] env = (false, eval e₁ env) :: starEach [e₂] env := by rfl) (he3 : starEach [e₂] env = (false, eval e₂ env) :: starEach [] env := by rfl) (hp : (backTo pos (starEach [e₂] env)).any (·.1) = false := by rfl) :
    Ev (model prog w) A (eval (.Call f [e₁, e₂] [] pos) env) s (IsRg lo hi) :=
  Ev.callT hf (.cons h1 (.cons h2 .nil IsI.mono he3) IsI.mono he2) (fun vs s' ⟨v, r, e, ⟨t, ev⟩, v2, r2, e2, ⟨t2, ev2⟩, e3⟩ x => by
    subst e e2 e3 ev ev2
    exact fun s₁ y Q q => call_range_2 (q _ _ ⟨_, _, _, _, rfl, IsRange.new _ _ _ _ _ _ _⟩ Ext.push)) he he2 hp
theorem Ev.range1 {f e₁ : Expr} {pos : Pos} {hi : Int} (hf : Ev (model prog w) A (eval f env) s (IsV (.type "range"))) (h1 : Ev (model prog w) A (eval e₁ env) s (IsI hi))
    (he : eval (.Call f [e₁] [] pos) env = (do callWith pos (← eval f env) [] (backTo pos (starEach [e₁] env)) (backToKw pos (keywordEach [] env))) := by rfl)
    (he2 : starEach [e₁] env = (false, eval e₁ env) :: starEach [] env := by rfl) (hp : (backTo pos (starEach [] env)).any (·.1) = false := by rfl) :
    Ev (model prog w) A (eval (.Call f [e₁] [] pos) env) s (IsRg 0 hi) :=
  Ev.callT hf (.cons h1 .nil IsI.mono he2) (fun vs s' ⟨v, r, e, ⟨t, ev⟩, e3⟩ x => by
    subst e e3 ev
    exact fun s₁ y Q q => call_range_1 (q _ _ ⟨_, _, _, _, rfl, IsRange.new _ _ _ _ _ _ _⟩ Ext.push)) he he2 hp

/-- changes of frames, cells and iterators alone -/
noncomputable def Sys (env : Env) (s s' : Shared) : Prop := ∀ b o, s.heap.get? b = some o → ¬ Own env b → (∀ xs, o.data ≠ .fields xs) → s'.heap.get? b = some o
theorem Sys.keep {env s s'} (h : Sys env s s') {b : Addr} {o : Obj} (e : s.heap.get? b = some o) (n : ¬ Own env b) (nf : ∀ xs, o.data ≠ .fields xs) : s'.heap.get? b = some o := h b o e n nf
theorem LV.sys {env ρ a n P} {s s' : Shared} (L : LV s.heap a n P) (F : Fm env s.heap ρ) (h : Sys env s s') : LV s'.heap a n P := by
  refine L.keep fun o e => h.keep e (L.notOwn F) fun xs hx => ?_
  obtain ⟨o', ys, k, e', hd⟩ := L.seq
  rw [e] at e'; cases e'; rw [hx] at hd; cases hd
theorem tup_sys {env ρ a vs} {s s' : Shared} (L : IsTup s.heap a vs) (F : Fm env s.heap ρ) (h : Sys env s s') : IsTup s'.heap a vs := by
  obtain ⟨o, e, hc, k, hd⟩ := L
  exact ⟨o, h.keep e (fun q => F.notSeq q e hd) (fun xs hx => by rw [hx] at hd; cases hd), hc, k, hd⟩

theorem For_wp {target iter : Expr} {body : List Stmt} {pos : Pos} {B mods : Addr → Prop} {n : Nat} {Bd : Nat → (Str → Option Value) → (Str → Option Value) → Prop} {ρ : Str → Option Value} {Q : Flow → Shared → Prop}
    (hh : A.handled = none) (N : En env) (F : Fm env s.heap ρ) (tg : tgOk env target = true)
    (hit : ItEv prog w A env target iter s B n Bd)
    (hB : ∀ b, B b → ¬ mods b) (hex : ∀ b, mods b → s.heap.get? b ≠ none) (hown : ∀ b, Own env b → mods b)
    (J : Nat → (Str → Option Value) → Shared → Prop)
    (Jq : ∀ i ρ s₁ s₂, J i ρ s₁ → Chg mods s s₁ → Fm env s₁.heap ρ → Sys env s₁ s₂ → J i ρ s₂)
    (h0 : ∀ s₁, Ext s s₁ → J 0 ρ s₁)
    (step : ∀ i ρ₁ ρ₂ s₁, i < n → J i ρ₁ s₁ → Bd i ρ₁ ρ₂ → Fm env s₁.heap ρ₂ → Chg mods s s₁ →
      wpAny (model prog w) A (execs body env) (fun f s₂ => Chg mods s₁ s₂ ∧ (match f with
        | .next | .cont => ∃ ρ₃, Fm env s₂.heap ρ₃ ∧ J (i+1) ρ₃ s₂
        | .brk => Q .next s₂
        | .ret v => Q (.ret v) s₂)) (fun _ _ => False) s₁)
    (fin : ∀ ρ₁ s₁, J n ρ₁ s₁ → Fm env s₁.heap ρ₁ → Chg mods s s₁ → Q .next s₁)
    (hs : ∀ x, foldedSetIterable iter env x = pure x := by intro _; rfl) :
    wpAny (model prog w) A (exec (.For target iter body [] pos) env) Q (fun _ _ => False) s := by
  refine wpAny_For (hit s .refl _ fun I fp own St s₁ W hSt x hnew hfp' => ?_) hs
  have hfp : ∀ b, fp b → s.heap.get? b = none ∨ B b := fun b hb => (hfp' b hb).imp (hnew b) id
  have hfpm : ∀ b, fp b → ¬ mods b := fun b hb hm => (hfp b hb).elim (fun e => hex b hm e) (fun e => hB b e hm)
  have hfpo : ∀ b, fp b → ¬ Own env b := fun b hb ho => hfpm b hb (hown b ho)
  refine codeAny_forLoop_any (R := fun r s' => match r with | .ok f => Q f s' | .error e => cameBackBy (model prog w) A env (fun _ _ => False) e s') (fun k s' => ∃ i ρ', i ≤ n ∧ k = n - i ∧ St i s' ∧ Fm env s'.heap ρ' ∧ J i ρ' s' ∧ Chg mods s s') ?_ n ⟨0, ρ, Nat.zero_le _, rfl, hSt, F.ext x, h0 _ x, x.any⟩
  intro k s₂ zz2
  obtain ⟨i, ρ', hi, rfl, hSt2, F2, hJ, hc⟩ := zz2
  by_cases hin : i < n
  · have T := W.turn env i s₂ ρ' (fun s₃ => ∃ ρ₃, Bd i ρ' ρ₃ ∧ Fm env s₃.heap ρ₃ ∧ St (i + 1) s₃ ∧ Chg mods s s₃ ∧ J i ρ' s₃) N tg hin hSt2 F2 hfpo fun s₃ ρ₃ hB3 F3 hSt3 c3 =>
      ⟨ρ₃, hB3, F3, hSt3, hc.transE c3 fun b hb z => z.elim (fun z => absurd (hnew b z) hb) fun z => hown b z.own, Jq _ _ _ _ hJ hc F2 fun b o e n nf =>
        c3.1 b o e fun z => z.elim (fun z => by obtain ⟨o', xs, e', hd⟩ := W.fld _ _ hSt2 b z; rw [e] at e'; cases e'; exact nf xs hd) fun z => n z.own⟩
    refine wpAny_mono T (fun r s' h => ?_) (fun _ _ h => h.elim)
    cases r with
    | none => exact h.elim
    | some v =>
      refine wpAny_mono h (fun _ s' h => wpAny_mono h (fun _ s₃ h => ?_) fun _ _ h => h.elim) fun _ _ h => h.elim
      obtain ⟨ρ₃, hB3, F3, hSt3, hc3, hJ3⟩ := h
      refine wpAny_mono (step i ρ' ρ₃ s₃ hin hJ3 hB3 F3 hc3) (fun f s₄ h => ?_) fun _ _ h => h.elim
      obtain ⟨c4, h⟩ := h
      have fin4 : (∃ ρ₃, Fm env s₄.heap ρ₃ ∧ J (i+1) ρ₃ s₄) → ∃ m, m < n - i ∧ ∃ i ρ', i ≤ n ∧ m = n - i ∧ St i s₄ ∧ Fm env s₄.heap ρ' ∧ J i ρ' s₄ ∧ Chg mods s s₄ := fun ⟨ρ₄, F4, hJ4⟩ =>
        ⟨n - (i + 1), by (with_reducible exact Nat.sub_lt_sub_left (by assumption) (Nat.lt_succ_self _)), i + 1, ρ₄, hin, rfl, W.frame _ _ _ hSt3 (fun b o hb e => c4.1 b o e (hfpm b hb)), F4, hJ4, hc3.trans c4⟩
      cases f with
      | next => exact fin4 h
      | cont => exact fin4 h
      | brk => exact h
      | ret v => exact h
  · obtain rfl : i = n := by omega
    have T := W.done s₂ (fun s' => Sys env s₂ s' ∧ Chg mods s s' ∧ Fm env s'.heap ρ') hh hSt2 fun s₃ hk hx =>
      ⟨fun b o e n nf => hk b o e fun z => by obtain ⟨o', xs, e', hd⟩ := W.fld _ _ hSt2 b z; rw [e] at e'; cases e'; exact nf xs hd,
        hx mods s hc hnew, F2.keep fun b o hb e => hk b o e fun z => hfpo b (W.ownI b z) hb⟩
    refine wpAny_mono T (fun r s' h => ?_) (fun _ _ h => h.elim)
    obtain ⟨rfl, hsys, hc3, F3⟩ := h
    exact wpAny_execs_nil (fin ρ' s' (Jq _ _ _ _ hJ hc F2 hsys) F3 hc3)
noncomputable def SeqAt (s : Shared) (b : Addr) : Prop := ∃ o xs k, s.heap.get? b = some o ∧ o.data = .seq xs k
/-- as For_wp; the body may also change lists that the loop has made -/
theorem For_wp' {target iter : Expr} {body : List Stmt} {pos : Pos} {B mods : Addr → Prop} {n : Nat} {Bd : Nat → (Str → Option Value) → (Str → Option Value) → Prop} {ρ : Str → Option Value} {Q : Flow → Shared → Prop}
    (hh : A.handled = none) (N : En env) (F : Fm env s.heap ρ) (tg : tgOk env target = true)
    (hit : ItEv prog w A env target iter s B n Bd)
    (hB : ∀ b, B b → ¬ mods b) (hB' : ∀ b, B b → s.heap.get? b ≠ none) (hex : ∀ b, mods b → s.heap.get? b ≠ none) (hown : ∀ b, Own env b → mods b)
    (J : Nat → (Str → Option Value) → Shared → Prop)
    (Jq : ∀ i ρ s₁ s₂, J i ρ s₁ → Chg mods s s₁ → Fm env s₁.heap ρ → Sys env s₁ s₂ → J i ρ s₂)
    (h0 : ∀ s₁, Ext s s₁ → J 0 ρ s₁)
    (step : ∀ i ρ₁ ρ₂ s₁, i < n → J i ρ₁ s₁ → Bd i ρ₁ ρ₂ → Fm env s₁.heap ρ₂ → Chg mods s s₁ →
      wpAny (model prog w) A (execs body env) (fun f s₂ => Chg (fun b => mods b ∨ (s.heap.get? b = none ∧ SeqAt s₁ b)) s₁ s₂ ∧ (match f with
        | .next | .cont => ∃ ρ₃, Fm env s₂.heap ρ₃ ∧ J (i+1) ρ₃ s₂
        | .brk => Q .next s₂
        | .ret v => Q (.ret v) s₂)) (fun _ _ => False) s₁)
    (fin : ∀ ρ₁ s₁, J n ρ₁ s₁ → Fm env s₁.heap ρ₁ → Chg mods s s₁ → Q .next s₁)
    (hs : ∀ x, foldedSetIterable iter env x = pure x := by intro _; rfl) :
    wpAny (model prog w) A (exec (.For target iter body [] pos) env) Q (fun _ _ => False) s := by
  refine wpAny_For (hit s .refl _ fun I fp own St s₁ W hSt x hnew hfp' => ?_) hs
  have hfp : ∀ b, fp b → s.heap.get? b = none ∨ B b := fun b hb => (hfp' b hb).imp (hnew b) id
  have hfpm : ∀ b, fp b → ¬ mods b := fun b hb hm => (hfp b hb).elim (fun e => hex b hm e) (fun e => hB b e hm)
  have hfpo : ∀ b, fp b → ¬ Own env b := fun b hb ho => hfpm b hb (hown b ho)
  refine codeAny_forLoop_any (R := fun r s' => match r with | .ok f => Q f s' | .error e => cameBackBy (model prog w) A env (fun _ _ => False) e s') (fun k s' => ∃ i ρ', i ≤ n ∧ k = n - i ∧ St i s' ∧ Fm env s'.heap ρ' ∧ J i ρ' s' ∧ Chg mods s s') ?_ n ⟨0, ρ, Nat.zero_le _, rfl, hSt, F.ext x, h0 _ x, x.any⟩
  intro k s₂ zz2
  obtain ⟨i, ρ', hi, rfl, hSt2, F2, hJ, hc⟩ := zz2
  by_cases hin : i < n
  · have T := W.turn env i s₂ ρ' (fun s₃ => ∃ ρ₃, Bd i ρ' ρ₃ ∧ Fm env s₃.heap ρ₃ ∧ St (i + 1) s₃ ∧ Chg mods s s₃ ∧ J i ρ' s₃) N tg hin hSt2 F2 hfpo fun s₃ ρ₃ hB3 F3 hSt3 c3 =>
      ⟨ρ₃, hB3, F3, hSt3, hc.transE c3 fun b hb z => z.elim (fun z => absurd (hnew b z) hb) fun z => hown b z.own, Jq _ _ _ _ hJ hc F2 fun b o e n nf =>
        c3.1 b o e fun z => z.elim (fun z => by obtain ⟨o', xs, e', hd⟩ := W.fld _ _ hSt2 b z; rw [e] at e'; cases e'; exact nf xs hd) fun z => n z.own⟩
    refine wpAny_mono T (fun r s' h => ?_) (fun _ _ h => h.elim)
    cases r with
    | none => exact h.elim
    | some v =>
      refine wpAny_mono h (fun _ s' h => wpAny_mono h (fun _ s₃ h => ?_) fun _ _ h => h.elim) fun _ _ h => h.elim
      obtain ⟨ρ₃, hB3, F3, hSt3, hc3, hJ3⟩ := h
      refine wpAny_mono (step i ρ' ρ₃ s₃ hin hJ3 hB3 F3 hc3) (fun f s₄ h => ?_) fun _ _ h => h.elim
      obtain ⟨c4, h⟩ := h
      have hfpn : ∀ b, fp b → ¬ (s.heap.get? b = none ∧ SeqAt s₃ b) := fun b hb ⟨z, o, xs, k, e, hd⟩ => by
        rcases hfp' b hb with z' | z'
        · obtain ⟨o', ys, e', hd'⟩ := W.fld _ _ hSt3 b z'
          rw [e] at e'; cases e'; rw [hd] at hd'; cases hd'
        · exact hB' b z' z
      have fin4 : (∃ ρ₃, Fm env s₄.heap ρ₃ ∧ J (i+1) ρ₃ s₄) → ∃ m, m < n - i ∧ ∃ i ρ', i ≤ n ∧ m = n - i ∧ St i s₄ ∧ Fm env s₄.heap ρ' ∧ J i ρ' s₄ ∧ Chg mods s s₄ := fun ⟨ρ₄, F4, hJ4⟩ =>
        ⟨n - (i + 1), by (with_reducible exact Nat.sub_lt_sub_left (by assumption) (Nat.lt_succ_self _)), i + 1, ρ₄, hin, rfl, W.frame _ _ _ hSt3 (fun b o hb e => c4.1 b o e fun z => z.elim (hfpm b hb) (hfpn b hb)), F4, hJ4, hc3.transE c4 fun b hb z => z.elim id fun z => absurd z.1 hb⟩
      cases f with
      | next => exact fin4 h
      | cont => exact fin4 h
      | brk => exact h
      | ret v => exact h
  · obtain rfl : i = n := by omega
    have T := W.done s₂ (fun s' => Sys env s₂ s' ∧ Chg mods s s' ∧ Fm env s'.heap ρ') hh hSt2 fun s₃ hk hx =>
      ⟨fun b o e n nf => hk b o e fun z => by obtain ⟨o', xs, e', hd⟩ := W.fld _ _ hSt2 b z; rw [e] at e'; cases e'; exact nf xs hd,
        hx mods s hc hnew, F2.keep fun b o hb e => hk b o e fun z => hfpo b (W.ownI b z) hb⟩
    refine wpAny_mono T (fun r s' h => ?_) (fun _ _ h => h.elim)
    obtain ⟨rfl, hsys, hc3, F3⟩ := h
    exact wpAny_execs_nil (fin ρ' s' (Jq _ _ _ _ hJ hc F2 hsys) F3 hc3)
end
end Mine
end
-- Fw6
section
open PySem PySem.W PyProof.Rows PySem.Calls
set_option Elab.async false
set_option maxRecDepth 100000
set_option linter.unusedVariables false
namespace Mine

/-! ## comprehensions -/
noncomputable def clOf (env : Env) : List (Str × NameKind) → List (Str × Addr) → List (Str × Addr)
  | [], acc => acc
  | (n, k) :: r, acc => if k == .free then (match env.cells.lookup n with | some c => clOf env r ((n, c) :: acc) | none => clOf env r acc) else clOf env r acc
noncomputable def freeOk (env : Env) (names : List (Str × NameKind)) : Bool := names.all fun x => !(x.2 == .free) || (env.cells.lookup x.1).isSome
theorem closureFor_loop {env : Env} (f : Str × NameKind → List (Str × Addr) → Sem (ForInStep (List (Str × Addr))))
    (hf : ∀ n k cs, f (n, k) cs = if k == .free then (do let c ← cellOf env n; pure (.yield ((n, c) :: cs))) else pure (.yield cs)) :
    ∀ (names : List (Str × NameKind)) (acc : List (Str × Addr)), freeOk env names = true → forIn names acc f = pure (clOf env names acc)
  | [], acc, _ => rfl
  | (n, k) :: r, acc, h => by
    simp only [freeOk, List.all_cons, Bool.and_eq_true] at h
    rw [List.forIn_cons, hf]
    unfold clOf
    cases hk : k == .free with
    | false =>
      simp only [Bool.false_eq_true, if_false]
      exact closureFor_loop f hf r acc h.2
    | true =>
      have h1 := h.1
      simp only [hk, Bool.not_true, Bool.false_or] at h1
      obtain ⟨c, hc⟩ := Option.isSome_iff_exists.mp h1
      have e : cellOf env n = pure c := by unfold cellOf; rw [hc]
      rw [e, hc]
      simp only [if_true]
      exact closureFor_loop f hf r _ h.2
theorem closureFor_eq {env : Env} {scope : Scope} (h : freeOk env scope.names = true) : closureFor scope env = pure (clOf env scope.names []) := by
  simp only [closureFor]
  rw [closureFor_loop (env := env) _ (fun n k cs => by cases hk : k == NameKind.free <;> simp) scope.names [] h]
  rfl
theorem clOf_mem {env : Env} : ∀ (names : List (Str × NameKind)) (acc : List (Str × Addr)) (x : Str) (c : Addr), (x, c) ∈ clOf env names acc →
    (x, c) ∈ acc ∨ (env.cells.lookup x = some c ∧ (x, NameKind.free) ∈ names)
  | [], acc, x, c, h => .inl h
  | (n, k) :: r, acc, x, c, h => by
    unfold clOf at h
    have tl : ∀ {acc'}, (x, c) ∈ clOf env r acc' → (x, c) ∈ acc' ∨ (env.cells.lookup x = some c ∧ (x, NameKind.free) ∈ (n, k) :: r) := fun hm =>
      (clOf_mem r _ x c hm).imp id fun q => ⟨q.1, .tail _ q.2⟩
    split at h
    · rename_i hk
      have hk' : k = .free := by simpa using hk
      split at h
      · rename_i c' hc
        rcases tl h with q | q
        · rcases List.mem_cons.mp q with q | q
          · cases q; subst hk'; exact .inr ⟨hc, .head _⟩
          · exact .inl q
        · exact .inr q
      · exact tl h
    · exact tl h
theorem cellsFrom_app : ∀ (names : List (Str × NameKind)) (n : Nat) (acc : List (Str × Addr)), cellsFrom n names acc = cellsFrom n names [] ++ acc
  | [], n, acc => rfl
  | (x, k) :: r, n, acc => by
    unfold cellsFrom
    split
    · rw [cellsFrom_app r (n+1) ((x, n) :: acc), cellsFrom_app r (n+1) [(x, n)]]; simp
    · exact cellsFrom_app r n acc
theorem cellsFrom_kind : ∀ (names : List (Str × NameKind)) (n : Nat) (x : Str) (c : Addr), (x, c) ∈ cellsFrom n names [] → (x, NameKind.cell) ∈ names ∧ n ≤ c
  | [], n, x, c, h => nomatch h
  | (y, k) :: r, n, x, c, h => by
    unfold cellsFrom at h
    split at h
    · rename_i hk
      have hk' : k = .cell := by simpa using hk
      rw [cellsFrom_app] at h
      rcases List.mem_append.mp h with h | h
      · have := cellsFrom_kind r (n+1) x c h; exact ⟨.tail _ this.1, by omega⟩
      · cases h with
        | head => subst hk'; exact ⟨.head _, Nat.le_refl _⟩
        | tail _ h => nomatch h
    · have := cellsFrom_kind r n x c h; exact ⟨.tail _ this.1, this.2⟩

noncomputable def chEnv (scope : Scope) (C : Addr) (env : Env) : Env :=
  { scope := relabel scope env, locals := C, globals := env.globals, cells := cellsFrom (C + 1) scope.names (clOf env scope.names []), qual := env.qual, func := none, code := env.code, frame := env.frame, builtins := env.builtins }
noncomputable def chRho (scope : Scope) (ρ : Str → Option Value) : Str → Option Value := fun x => if scope.names.lookup x = some .free then ρ x else none
noncomputable def compOk (scope : Scope) (env : Env) : Bool := freeOk env scope.names && decide ((scope.names.map (·.1)).Nodup) && scope.kind == .function

theorem lookup_of_nodup {α : Type} : ∀ {l : List (Str × α)} {x : Str} {a : α}, (l.map (·.1)).Nodup → (x, a) ∈ l → l.lookup x = some a
  | (k, v) :: r, x, a, hn, h => by
    rw [List.lookup_cons]
    simp only [List.map_cons, List.nodup_cons] at hn
    rcases List.mem_cons.mp h with e | h
    · cases e; simp
    · have : (x == k) = false := by
        cases q : x == k with
        | false => rfl
        | true => rw [beq_iff_eq.mp q] at h; exact absurd (List.mem_map_of_mem (f := (·.1)) h) hn.1
      rw [this]; exact lookup_of_nodup hn.2 h

section
variable {M : Model} {A : Around} {s : Shared} {env : Env} {ρ : Str → Option Value} {scope : Scope}

theorem En.child (N : En env) (hk : scope.kind = .function) {C : Addr} : En (chEnv scope C env) := ⟨by simp [chEnv, relabel, hk], N.glob, N.bi⟩

theorem pushCells_ext : ∀ (names : List (Str × NameKind)) (h : Heap) (b : Addr) (o : Obj), h.get? b = some o → (pushCells h names).get? b = some o := pushCells_keeps

theorem newEnv_comp {Q : Env → Shared → Prop} (F : Fm env s.heap ρ) (ok : compOk scope env = true)
    (h : ∀ C s', s.heap.get? C = none → Fm (chEnv scope C env) s'.heap (chRho scope ρ) → Ext s s' → (∀ x c, (chEnv scope C env).cells.lookup x = some c → scope.names.lookup x = some .free ∨ s.heap.get? c = none) →
      Q { scope := scope, locals := C, globals := env.globals, cells := cellsFrom (C + 1) scope.names (clOf env scope.names []), qual := env.qual, func := none, code := env.code, frame := env.frame, builtins := env.builtins } s') :
    wpAny M A (newFunctionEnv scope env.globals (clOf env scope.names []) [] env.qual none .none (some env)) Q (fun _ _ => False) s := by
  simp only [compOk, Bool.and_eq_true, decide_eq_true_eq, beq_iff_eq] at ok
  obtain ⟨⟨hfree, hnd⟩, hk⟩ := ok
  simp only [newFunctionEnv, Option.isSome_some, if_true]
  refine wpAny_bind (wpAny_alloc ?_)
  refine wpAny_bind (wpAny_layCells _ (fun name kind cells => by cases hkc : kind == NameKind.cell <;> simp) _ _ _ _ ?_)
  have okc := cellsFrom_ok scope.names (s.heap.push { cls := .type "dict", data := .dict #[] }) (s.heap.objs.size + 1) [] ⟨fun _ _ hm => (nomatch hm), List.Pairwise.nil⟩ (by rw [Heap.size_push]; exact Nat.le_refl _)
  rw [Heap.size_push] at okc
  rw [show ({ s with heap := s.heap.push { cls := .type "dict", data := .dict #[] } } : Shared).heap.objs.size = s.heap.objs.size + 1 from Heap.size_push ..]
  refine wpAny_bind (wpAny_pure (wpAny_pure (h s.heap.objs.size _ (size_none _) ?_ ?_ ?_)))
  rotate_left
  · exact Ext.of_keep fun b o e => pushCells_keeps _ _ b o (Heap.get?_push_of_some _ e)
  · intro x b hx
    have hm := mem_of_lookup hx
    simp only [chEnv] at hm
    rw [cellsFrom_app] at hm
    rcases List.mem_append.mp hm with hm | hm
    · have q := (cellsFrom_kind _ _ _ _ hm).2
      refine .inr ?_
      cases e : s.heap.get? b with
      | none => rfl
      | some o => exact absurd (Nat.lt_of_lt_of_le (Heap.lt_size e) (Nat.le_of_succ_le q)) (Nat.lt_irrefl _)
    · rcases clOf_mem _ _ _ _ hm with q | q
      · nomatch q
      · exact .inl (lookup_of_nodup hnd q.2)
  · have old : ∀ b o, s.heap.get? b = some o → (pushCells (s.heap.push { cls := .type "dict", data := .dict #[] }) scope.names).get? b = some o := fun b o e => pushCells_keeps _ _ b o (Heap.get?_push_of_some _ e)
    have key : ∀ x c, (chEnv scope s.heap.objs.size env).cells.lookup x = some c →
        ((x, c) ∈ cellsFrom (s.heap.objs.size + 1) scope.names [] ∧ scope.names.lookup x = some .cell ∧ s.heap.objs.size < c) ∨ (env.cells.lookup x = some c ∧ scope.names.lookup x = some .free ∧ c < s.heap.objs.size) := by
      intro x c hx
      have hm := mem_of_lookup hx
      simp only [chEnv] at hm
      rw [cellsFrom_app] at hm
      rcases List.mem_append.mp hm with hm | hm
      · have q := cellsFrom_kind _ _ _ _ hm
        exact .inl ⟨hm, lookup_of_nodup hnd q.1, q.2⟩
      · rcases clOf_mem _ _ _ _ hm with q | q
        · nomatch q
        · obtain ⟨o, ho, _⟩ := F.cell x c q.1
          exact .inr ⟨q.1, lookup_of_nodup hnd q.2, Heap.lt_size ho⟩
    refine ⟨⟨fun _ => none, (Heap.Ns.new s.heap (.type "dict")).keeps (pushCells_keeps _ _), fun x hx => ?_⟩, fun x c hx => ?_, fun x c hx => ?_, fun x y c hx hy => ?_⟩
    · have : scope.names.lookup x ≠ some .free := fun q => by
        have : Env.kindOf (chEnv scope s.heap.objs.size env) x = some .local := hx
        simp only [Env.kindOf, chEnv, relabel] at this
        have hm := mem_of_lookup this
        obtain ⟨⟨n, k⟩, hm, e⟩ := List.mem_map.mp hm
        have e' : (if (k == NameKind.free && env.scope.kind == .function && env.kindOf n == some .cell) = true then (n, NameKind.cell) else (n, k)) = (x, NameKind.local) := e
        by_cases hc : (k == NameKind.free && env.scope.kind == .function && env.kindOf n == some .cell) = true
        · rw [if_pos hc] at e'; cases e'
        · rw [if_neg hc] at e'; cases e'
          rw [lookup_of_nodup hnd hm] at q; cases q
      show none = chRho scope ρ x
      unfold chRho; rw [if_neg this]
    · rcases key x c hx with ⟨hm, hk, _⟩ | ⟨hc, hk, _⟩
      · have := (okc.empty x c hm).1
        rw [show chRho scope ρ x = none by unfold chRho; rw [hk]; rfl]
        exact this
      · rw [show chRho scope ρ x = ρ x by unfold chRho; rw [hk]; rfl]
        exact (F.cell x c hc).keeps old
    · rcases key x c hx with ⟨_, _, hl⟩ | ⟨_, _, hl⟩
      · exact Nat.ne_of_gt hl
      · exact Nat.ne_of_lt hl
    · rcases key x c hx with ⟨hm, _, hl⟩ | ⟨hc, _, hl⟩ <;> rcases key y c hy with ⟨hm', _, hl'⟩ | ⟨hc', _, hl'⟩
      · exact name_of_addr okc.apart hm hm'
      · exact absurd (Nat.lt_trans hl hl') (Nat.lt_irrefl _)
      · exact absurd (Nat.lt_trans hl' hl) (Nat.lt_irrefl _)
      · exact F.inj x y c hc hc'
end
end Mine
end
-- Fw7
section
open PySem PySem.W PyProof.Rows PySem.Calls
set_option Elab.async false
set_option maxRecDepth 100000
set_option linter.unusedVariables false
namespace Mine

noncomputable def TstL (M : Model) (A : Around) (ifs : List Expr) (env : Env) (s : Shared) (b : Bool) : Prop :=
  ∀ s₁, Ext s s₁ → ∀ Q : Bool → Shared → Prop, (∀ s', Ext s₁ s' → Q b s') →
    wpAny M A (forIn ifs true fun c r => if r = true then do let ok ← isTrue c env (eval c env); pure (ForInStep.yield ok) else pure (ForInStep.yield r)) Q (fun _ _ => False) s₁
section
variable {prog : Program} {w : World} {A : Around} {s : Shared} {env : Env} {ρ : Str → Option Value}
theorem TstL.nil : TstL (model prog w) A [] env s true := fun s₁ x Q q => wpAny_tests_nil (q _ .refl)
theorem TstL.one {c : Expr} {b : Bool} (h : Tst (model prog w) A c env s b) : TstL (model prog w) A [c] env s b :=
  fun s₁ x Q q => wpAny_tests_one (h s₁ x _ fun s' y => q _ y)

/-- sequences other than D stay -/
noncomputable def SeqBut (D : Addr) (s s' : Shared) : Prop := ∀ b o xs k, s.heap.get? b = some o → b ≠ D → o.data = .seq xs k → s'.heap.get? b = some o
theorem SeqBut.ext {D s s'} (x : Ext s s') : SeqBut D s s' := fun b o _ _ e _ _ => x.1 b o e fun h => h

noncomputable def tgNew (scope : Scope) : Expr → Bool
  | .Name x _ => scope.names.lookup x != some .free
  | .Tuple [.Name x _, .Name y _] _ _ => scope.names.lookup x != some .free && scope.names.lookup y != some .free
  | _ => false
theorem TgE.new {scope : Scope} {C : Addr} {env : Env} {target : Expr} {b : Addr} {s : Shared} (tn : tgNew scope target = true) (hC : s.heap.get? C = none)
    (h : ∀ x c, (chEnv scope C env).cells.lookup x = some c → scope.names.lookup x = some .free ∨ s.heap.get? c = none) (t : TgE (chEnv scope C env) target b) : s.heap.get? b = none := by
  have one : ∀ x, (scope.names.lookup x != some .free) = true → TgA (chEnv scope C env) x b → s.heap.get? b = none := fun x hx t => by
    rcases t with rfl | t
    · exact hC
    · exact (h x b t).resolve_left (by simpa using hx)
  unfold TgE at t
  split at t
  · exact one _ tn t
  · simp only [tgNew, Bool.and_eq_true] at tn
    exact t.elim (one _ tn.1) (one _ tn.2)
  · exact t.elim

theorem Ev.compG {elt target iter : Expr} {ifs : List Expr} {scope : Scope} {pos : Pos} {B : Addr → Prop} {n : Nat} {Bd : Nat → (Str → Option Value) → (Str → Option Value) → Prop}
    (hh : A.handled = none) (N : En env) (F : Fm env s.heap ρ) (ok : compOk scope env = true) (hit : ItEv prog w A env target iter s B n Bd)
    (tg : ∀ C, tgOk (chEnv scope C env) target = true) (tn : tgNew scope target = true) (hn : n ≤ 2 ^ 20)
    (Acc : Addr → Nat → List Value → Shared → Prop) (G : (Str → Option Value) → Prop)
    (Aq : ∀ D i ys s₁ s₂, Acc D i ys s₁ → SeqBut D s₁ s₂ → Acc D i ys s₂)
    (a0 : ∀ D s₁, Ext s s₁ → s.heap.get? D = none → s₁.heap.get? D ≠ none → Acc D 0 [] s₁) (g0 : G (chRho scope ρ))
    (hel : ∀ D C i ρ₁ ρ₂ ys s₁, i < n → Ext s s₁ → s₁.heap.get? D ≠ none → Acc D i ys s₁ → G ρ₁ → Bd i ρ₁ ρ₂ → Fm (chEnv scope C env) s₁.heap ρ₂ → En (chEnv scope C env) →
      ∃ b, TstL (model prog w) A ifs (chEnv scope C env) s₁ b ∧ G ρ₂ ∧ (b = false → Acc D (i+1) ys s₁) ∧
        (b = true → Ev (model prog w) A (eval elt (chEnv scope C env)) s₁ (fun v s₂ => Ext s₁ s₂ → Acc D (i+1) (ys ++ [v]) s₂)))
    (hs : ∀ x, foldedSetIterable iter env x = pure x := by intro _; rfl) :
    Ev (model prog w) A (eval (.ListComp elt [⟨target, iter, ifs, 0⟩] scope pos) env) s (fun v s' => ∃ D ys, v = .ref D ∧ s.heap.get? D = none ∧ s'.heap.IsList D ys.toArray ∧ Acc D n ys s') := by
  intro s₀ x0 Q q
  have ok' := ok
  simp only [compOk, Bool.and_eq_true, decide_eq_true_eq, beq_iff_eq] at ok'
  obtain ⟨⟨hfree, hnd⟩, hk⟩ := ok'
  rw [eval_ListComp]
  refine wpAny_comprehension_free (use := none) rfl hs (closureFor_eq hfree) hk (fun y hy he => lookup_of_nodup hnd (he ▸ hy)) ?_
  refine hit s₀ x0 _ fun I fp own St s₁ W hSt x1 hnew hfp => ?_
  refine wpAny_newObj_type (T := "list") ?_ (by show ([] : List Value).toArray.size ≤ sizeLine; exact Nat.zero_le _)
  generalize hs2 : ({ heap := s₁.heap.push { cls := .type "list", dict := none, data := .seq ([] : List Value).toArray }, gens := s₁.gens, drawn := s₁.drawn, toks := s₁.toks, os := s₁.os } : Shared) = s₂
  have x2 : Ext s₁ s₂ := hs2 ▸ Ext.push
  have hD : s₁.heap.get? s₁.heap.objs.size = none := size_none _
  have hDl : s₂.heap.IsList s₁.heap.objs.size ([] : List Value).toArray := by rw [← hs2]; exact ⟨_, Heap.get?_push_size _ rfl, rfl, _, rfl⟩
  have F2 : Fm env s₂.heap ρ := F.ext (x0.trans (x1.trans x2))
  generalize s₁.heap.objs.size = D at hD hDl
  refine newEnv_comp F2 ok fun C s₃ hC F3 x3 hown => ?_
  have tgn : ∀ b, TgE (chEnv scope C env) target b → s₂.heap.get? b = none := fun b t => t.new tn hC hown
  generalize hE : chEnv scope C env = env' at F3 tgn
  have hE' : ({ scope := relabel scope env, locals := C, globals := env.globals, cells := cellsFrom (C + 1) scope.names (clOf env scope.names []), qual := env.qual, func := none, code := env.code, frame := env.frame, builtins := env.builtins } : Env) = env' := hE
  show codeAny _ A (.compStart _ 0 (.ref I) (.ref D) { scope := relabel scope env, locals := C, globals := env.globals, cells := cellsFrom (C + 1) scope.names (clOf env scope.names []), qual := env.qual, func := none, code := env.code, frame := env.frame, builtins := env.builtins }) _ s₃
  rw [hE']
  have hloc : env'.locals = C := by rw [← hE]; rfl
  have N' : En env' := hE ▸ N.child hk
  have tg' : tgOk env' target = true := hE ▸ tg C
  have hSt3 : St 0 s₃ := W.frame 0 _ _ hSt fun b o _ e => (x2.trans x3).1 b o e fun h => h
  have hDne : ∀ b, fp b → b ≠ D := fun b hb e => W.ex hSt hb (e ▸ hD)
  have hDD : D ≠ C := fun e => by obtain ⟨o, ho, _⟩ := hDl; rw [e, hC] at ho; cases ho
  have hDown : ¬ Own env' D := fun ho => by
    obtain ⟨o, ho', hc, k, hd⟩ := hDl
    exact F3.notSeq ho (x3.all _ _ ho') hd
  have hD0 : s₀.heap.get? D = none := x1.2 D hD
  have hC0 : s₀.heap.get? C = none := x1.2 C (x2.2 C hC)
  have hx03 : Ext s₀ s₃ := x1.trans (x2.trans x3)
  have hlt : ∀ b, TgE env' target b → s₀.heap.get? b = none := fun b t => x1.2 b (x2.2 b (tgn b t))
  let ST : Nat → Shared → Prop := fun k s' => ∃ i ρ' ys, i ≤ n ∧ k = n - i ∧ St i s' ∧ Fm env' s'.heap ρ' ∧ G ρ' ∧ s'.heap.IsList D ys.toArray ∧ ys.length ≤ i ∧ Acc D i ys s' ∧ Ext s₀ s'
  have hend : ∀ s' ρ' ys, Fm env' s'.heap ρ' → s'.heap.IsList D ys.toArray → Acc D n ys s' → Ext s₀ s' →
      compPost (model prog w) A (fun _ _ => False) none Q (.ref D) C (.ok .next) s' := fun s' ρ' ys F' hl hA hx => by
    obtain ⟨m, hm, _⟩ := F'.ns
    rw [hloc] at hm
    refine ⟨m, hm, fun h' hs' => ?_⟩
    have sb : SeqBut D s' { s' with heap := h' } := fun b o xs k e nD hd => hs'.extBut b o (fun q => by
      subst q
      obtain ⟨o', es, ep, ho', hd', _⟩ := hm
      rw [e] at ho'; cases ho'; rw [hd] at hd'; cases hd') e
    exact q _ _ ⟨D, ys, rfl, x0.2 D hD0, hl.extBut hs'.extBut hDD, Aq _ _ _ _ _ hA sb⟩ (hx.extNew hs'.extBut hC0)
  have loop : codeAny (model prog w) A (.compLoop (.ListComp elt [⟨target, iter, ifs, 0⟩] scope pos) 0 (.ref I) (.ref D) env') (compPost (model prog w) A (fun _ _ => False) none Q (.ref D) C) s₃ := by
    refine codeAny_loop rfl ST (fun k s' hI => ?_) n ⟨0, _, [], Nat.zero_le _, rfl, hSt3, F3, g0, (by obtain ⟨o, ho, r⟩ := hDl; exact ⟨o, x3.all _ _ ho, r⟩), Nat.le_refl _, a0 D s₃ (x0.trans hx03) (x0.2 D hD0) (by obtain ⟨o, ho, _⟩ := hDl; exact some_ne (x3.all _ _ ho)), hx03⟩
    obtain ⟨i, ρ', ys, hi, rfl, hSti, Fi, hG, hl, hlen, hA, hx⟩ := hI
    show wpAny _ A ((compTurn (.ListComp elt [⟨target, iter, ifs, 0⟩] scope pos) 0 (.ref I) (.ref D) env').onRaise (fun x => do noteFrame x env'; theTreesLotGoes x)) _ _ s'
    refine wpAny_noted ?_
    rw [compTurn_list]
    refine wpAny_bind (wpAny_standAt (wpAny_bind ?_))
    by_cases hin : i < n
    · have T := W.turn env' i s' ρ' (fun s₄ => ∃ ρ₂, Bd i ρ' ρ₂ ∧ Fm env' s₄.heap ρ₂ ∧ St (i + 1) s₄ ∧ s₄.heap.IsList D ys.toArray ∧ Acc D i ys s₄ ∧ Ext s₀ s₄) N' tg' hin hSti Fi (fun b hb => W.notOwn hSti Fi hb)
        fun s₄ ρ₂ hB F4 hSt4 c4 => by
          have hnD : ¬ (own D ∨ TgE env' target D) := fun z => z.elim (fun z => hDne D (W.ownI D z) rfl) fun z => hDown z.own
          refine ⟨ρ₂, hB, F4, hSt4, ?_, Aq _ _ _ _ _ hA ?_, hx.transE c4 fun b hb z => z.elim (fun z => absurd (hnew b z) hb) fun z => absurd (hlt b z) hb⟩
          · obtain ⟨o, ho, r⟩ := hl; exact ⟨o, c4.1 _ o ho hnD, r⟩
          · intro b o xs k e nD hd
            refine c4.1 b o e fun z => z.elim (fun z => ?_) fun z => Fi.notSeq z.own e hd
            obtain ⟨o', ys', e', hd'⟩ := W.fld _ _ hSti b z
            rw [e] at e'; cases e'; rw [hd] at hd'; cases hd'
      refine wpAny_mono T (fun r s'' h => ?_) (fun _ _ h => h.elim)
      cases r with
      | none => exact h.elim
      | some v =>
        refine wpAny_bind (wpAny_mono h (fun _ s'' h => wpAny_bind (wpAny_mono h (fun _ s₄ h => ?_) fun _ _ h => h.elim)) fun _ _ h => h.elim)
        obtain ⟨ρ₂, hB, F4, hSt4, hl4, hA4, hx4⟩ := h
        have hD4 : s₄.heap.get? D ≠ none := by obtain ⟨o, ho, _⟩ := hl4; exact some_ne ho
        obtain ⟨b, htst, hG2, hf, ht⟩ := hel D C i ρ' ρ₂ ys s₄ hin (x0.trans hx4) hD4 hA4 hG hB (hE ▸ F4) (hE ▸ N')
        rw [hE] at htst ht
        refine wpAny_bind (wpAny_mono (htst s₄ .refl (fun ok s₅ => ok = b ∧ Ext s₄ s₅) fun s₅ x => ⟨rfl, x⟩) (fun ok s₅ h => ?_) fun _ _ h => h.elim)
        obtain ⟨rfl, x5⟩ := h
        cases ok with
        | false =>
          refine wpAny_pure ⟨rfl, n - (i + 1), by (with_reducible exact Nat.sub_lt_sub_left (by assumption) (Nat.lt_succ_self _)), i + 1, ρ₂, ys, hin, rfl, W.frame _ _ _ hSt4 (fun b o _ e => x5.all b o e), F4.ext x5, hG2, ?_, by (with_reducible exact Nat.le_succ_of_le (by assumption)), Aq _ _ _ _ _ (hf rfl) (.ext x5), hx4.trans x5⟩
          obtain ⟨o, ho, r⟩ := hl4; exact ⟨o, x5.all _ o ho, r⟩
        | true =>
          simp only [if_true]
          refine wpAny_bind (wpAny_bind (((ht rfl).up x5).useE fun v s₆ hv x6 => wpAny_bind ?_))
          have hl6 : s₆.heap.IsList D ys.toArray := by obtain ⟨o, ho, r⟩ := hl4; exact ⟨o, x6.all _ _ (x5.all _ o ho), r⟩
          refine wpAny_list_append hl6 (fun h' hl' hs' => wpAny_pure (wpAny_pure ⟨rfl, n - (i + 1), by (with_reducible exact Nat.sub_lt_sub_left (by assumption) (Nat.lt_succ_self _)), i + 1, ρ₂, ys ++ [v], hin, rfl, ?_, ?_, hG2, by simpa using hl', by simp; (with_reducible assumption), Aq _ _ _ _ _ (hv (x5.trans x6)) ?_, ?_⟩)) (by rw [sizeLine_eq]; simp; omega)
          · refine W.frame (i + 1) s₆ _ (W.frame _ _ _ hSt4 (fun b o _ e => x6.all b o (x5.all b o e))) fun b o hb e => hs'.extBut b o (hDne b hb) e
          · refine Fm.keep (h := s₆.heap) ((F4.ext x5).ext x6) fun b o hb e => hs'.extBut b o (fun q => hDown (q ▸ hb)) e
          · exact fun b o xs k e nD hd => hs'.extBut b o nD e
          · exact (hx4.trans (x5.trans x6)).extNew hs'.extBut hD0
    · obtain rfl : i = n := by omega
      have T := W.done s' (fun s'' => (∀ b o, s'.heap.get? b = some o → ¬ own b → s''.heap.get? b = some o) ∧ Ext s₀ s'') hh hSti fun s'' hk hx' => ⟨hk, hx' _ _ hx hnew⟩
      refine wpAny_mono T (fun r s'' h => ?_) (fun _ _ h => h.elim)
      obtain ⟨rfl, hk', hx''⟩ := h
      refine wpAny_pure (hend s'' ρ' ys (Fi.keep fun b o hb e => hk' b o e fun z => W.notOwn hSti Fi (W.ownI b z) hb) ?_ (Aq _ _ _ _ _ hA ?_) hx'')
      · obtain ⟨o, ho, r⟩ := hl; exact ⟨o, hk' _ o ho fun z => hDne D (W.ownI D z) rfl, r⟩
      · intro b o xs k e nD hd
        refine hk' b o e fun z => ?_
        obtain ⟨o', ys', e', hd'⟩ := W.fld _ _ hSti b z
        rw [e] at e'; cases e'; rw [hd] at hd'; cases hd'
  exact codeAny_compStart_list loop (W.self 0 _ _ _ hSt3 loop)
end
end Mine
end
-- Fw8
section
open PySem PySem.W PyProof.Rows PySem.Calls
set_option Elab.async false
set_option maxRecDepth 100000
set_option linter.unusedVariables false
namespace Mine

/-! ## entering a def -/
noncomputable def bindOk (scope : Scope) (binds : List (Str × Value)) : Bool := binds.all fun x => scope.names.lookup x.1 == some .local || scope.names.lookup x.1 == some .cell
theorem cellsFrom_has : ∀ (names : List (Str × NameKind)) (n : Nat) (x : Str), (x, NameKind.cell) ∈ names → ((cellsFrom n names []).lookup x).isSome = true
  | (y, k) :: r, n, x, h => by
    unfold cellsFrom
    have app : ∀ (a b : List (Str × Addr)), (a ++ b).lookup x = (a.lookup x).or (b.lookup x) := fun a b => by rw [List.lookup_append]
    split
    · rename_i hk
      rw [cellsFrom_app, app]
      rcases List.mem_cons.mp h with e | h
      · cases e; simp
      · have := cellsFrom_has r (n+1) x h
        cases q : (cellsFrom (n+1) r []).lookup x with
        | none => rw [q] at this; cases this
        | some c => simp
    · rename_i hk
      rcases List.mem_cons.mp h with e | h
      · cases e; exact absurd rfl hk
      · exact cellsFrom_has r n x h
theorem bindL_at {kindOf : Str → Option NameKind} : ∀ (binds : List (Str × Value)) (m : Str → Option Value) (x : Str), kindOf x = some .local → bindL kindOf binds m x = (binds.reverse.lookup x).or (m x)
  | [], m, x, h => by simp [bindL]
  | (n, v) :: r, m, x, h => by
    unfold bindL
    rw [bindL_at r _ x h, List.reverse_cons, List.lookup_append]
    by_cases q : x = n
    · subst q; simp [h, Option.or_assoc]
    · have q' : (x == n) = false := by simpa using q
      simp only [List.lookup_cons, q', List.lookup_nil, Option.or_none]
      split <;> simp [q]
theorem bindC_at {kindOf : Str → Option NameKind} : ∀ (binds : List (Str × Value)) (m : Str → Option Value) (x : Str), kindOf x ≠ some .local → bindC kindOf binds m x = (binds.reverse.lookup x).or (m x)
  | [], m, x, h => by simp [bindC]
  | (n, v) :: r, m, x, h => by
    unfold bindC
    rw [bindC_at r _ x h, List.reverse_cons, List.lookup_append]
    by_cases q : x = n
    · subst q; simp [h, Option.or_assoc]
    · have q' : (x == n) = false := by simpa using q
      simp only [List.lookup_cons, q', List.lookup_nil, Option.or_none]
      split <;> simp [q]

noncomputable def retv : Flow → Value
  | .ret v => v
  | _ => .none
section
variable {prog : Program} {w : World} {A : Around} {s : Shared} {K : Frag} {hb : Heap}

theorem call_K1 {Q : Value → Shared → Prop} {fa : Addr} {oc : Value} {od : Option Addr} {osl : Array (Option Value)} {fd : FuncData} {body : List Stmt} {vals : List Value} {binds : List (Str × Value)}
    (a : Am K hb) (u : Up hb s) (hroom : A.depth < recursionLimit) (ho : K.lookup fa = some ⟨oc, od, .func fd, osl⟩) (hbody : fd.body = .stmts body) (hclo : fd.closure = []) (hcd : codeIn K fd.code fd.qualname = true)
    (hbind : bindArgs fd ⟨vals, []⟩ = pure binds) (hkd : bindOk fd.scope binds = true) (hnd : (fd.scope.names.map (·.1)).Nodup)
    (hg : fd.globals = mainGlobals) (hbi : fd.builtins = builtinsNs)
    (h : ∀ env s₁, env = callEnvC fd s.heap.objs.size fa → En env → Fm env s₁.heap (fun x => binds.reverse.lookup x) → Ext s s₁ → (∀ b, Own env b → s.heap.get? b = none) →
      wpAny (model prog w) (A.deeper env) (execs body env) (fun f s' => Q (retv f) s') (fun _ _ => False) s₁)
    (hco : fd.scope.isCoroutine = false := by rfl) (hgen : fd.scope.isGenerator = false := by rfl) (hk : fd.scope.kind = .function := by rfl) :
    wpAny (model prog w) A (call (.ref fa) vals) Q (fun _ _ => False) s := by
  obtain ⟨p, l, mg, mb, T⟩ := a.top
  have hkinds : ∀ x ∈ binds, fd.scope.names.lookup x.1 = some .local ∨ (fd.scope.names.lookup x.1 = some .cell ∧ ((cellsFrom (s.heap.objs.size + 1) fd.scope.names []).lookup x.1).isSome = true) := fun x hx => by
    have := List.all_eq_true.mp hkd x hx
    simp only [Bool.or_eq_true, beq_iff_eq] at this
    exact this.imp id fun e => ⟨e, cellsFrom_has _ _ _ (mem_of_lookup e)⟩
  refine wpAny_call (codeAny_call_cells hroom (u _ _ (a.kin _ _ ho)) rfl (T.nolimit.keeps u) ((codeRec_of a.kin hcd).keeps u) hbody hbind hclo hkinds (fun s₁ x => ?_) hco hgen hk)
  have hsz : ∀ b : Addr, s.heap.objs.size ≤ b → s.heap.get? b = none := fun b hb => by
    cases e : s.heap.get? b with
    | none => rfl
    | some o => exact absurd (Heap.lt_size e) (Nat.not_lt.mpr hb)
  have F : Fm (callEnvC fd s.heap.objs.size fa) s₁.heap (fun x => binds.reverse.lookup x) := by
    refine ⟨⟨_, x.toInCall.ns, fun y hy => ?_⟩, fun y c hy => ?_, fun y c hy => ?_, fun y z c hy hz => name_of_addr x.apart (mem_of_lookup hy) (mem_of_lookup hz)⟩
    · rw [bindL_at _ _ _ hy]; simp
    · have := x.cell y c hy
      rw [bindC_at _ _ _ fun e => ?_] at this
      · simpa using this
      · have hm := cellsFrom_kind _ _ _ _ (mem_of_lookup hy)
        have e' : fd.scope.names.lookup y = some .local := e
        rw [lookup_of_nodup hnd hm.1] at e'; cases e'
    · exact Nat.ne_of_gt (x.above y c (mem_of_lookup hy))
  have X : Ext s s₁ := by
    obtain ⟨h', tk, rfl, hk'⟩ := x.done
    exact Ext.of_keep hk'
  have own : ∀ b, Own (callEnvC fd s.heap.objs.size fa) b → s.heap.get? b = none := fun b hb => by
    rcases hb with rfl | ⟨y, hy⟩
    · exact size_none _
    · exact hsz b (Nat.le_of_lt (x.above y b (mem_of_lookup hy)))
  exact wpAny_mono (h _ s₁ rfl ⟨hk, hg, hbi⟩ F X own) (fun f s' q => by cases f <;> exact q) fun _ _ q => q.elim
end

/-! ## names in a child -/
section
variable {env : Env} {scope : Scope} {C : Addr} {x : Str}
theorem kindOf_child : (chEnv scope C env).kindOf x = (scope.names.map fun (n, k) => if (k == .free && env.scope.kind == .function && env.kindOf n == some .cell) then (n, NameKind.cell) else (n, k)).lookup x := rfl
theorem kind_keep {k : NameKind} (hk : k ≠ .free) : ∀ {names : List (Str × NameKind)}, names.lookup x = some k →
    (names.map fun (n, k) => if (k == NameKind.free && env.scope.kind == .function && env.kindOf n == some .cell) then (n, NameKind.cell) else (n, k)).lookup x = some k
  | (n, k') :: r, h => by
    rw [List.lookup_cons] at h
    show List.lookup x ((if (k' == NameKind.free && env.scope.kind == .function && env.kindOf n == some .cell) = true then (n, NameKind.cell) else (n, k')) :: _) = _
    cases hx : x == n with
    | true =>
      rw [hx] at h; cases h
      have : (k == NameKind.free) = false := by simpa using hk
      simp [List.lookup_cons, hx, this]
    | false =>
      rw [hx] at h
      by_cases hc : (k' == NameKind.free && env.scope.kind == .function && env.kindOf n == some .cell) = true
      · rw [if_pos hc]; simp only [List.lookup_cons, hx]; exact kind_keep hk h
      · rw [if_neg hc]; simp only [List.lookup_cons, hx]; exact kind_keep hk h
theorem kind_free : ∀ {names : List (Str × NameKind)}, names.lookup x = some .free →
    let k := (names.map fun (n, k) => if (k == NameKind.free && env.scope.kind == .function && env.kindOf n == some .cell) then (n, NameKind.cell) else (n, k)).lookup x
    k = some .free ∨ k = some .cell
  | (n, k') :: r, h => by
    rw [List.lookup_cons] at h
    show List.lookup x ((if (k' == NameKind.free && env.scope.kind == .function && env.kindOf n == some .cell) = true then (n, NameKind.cell) else (n, k')) :: _) = _ ∨ List.lookup x ((if (k' == NameKind.free && env.scope.kind == .function && env.kindOf n == some .cell) = true then (n, NameKind.cell) else (n, k')) :: _) = _
    cases hx : x == n with
    | true =>
      rw [hx] at h; cases h
      split <;> simp [List.lookup_cons, hx]
    | false =>
      rw [hx] at h
      by_cases hc : (k' == NameKind.free && env.scope.kind == .function && env.kindOf n == some .cell) = true
      · rw [if_pos hc]; simp only [List.lookup_cons, hx]; exact kind_free h
      · rw [if_neg hc]; simp only [List.lookup_cons, hx]; exact kind_free h
theorem ch_cells_lookup {nm : List (Str × NameKind)} (hn : ∀ n, x ∉ (cellsFrom n nm []).map (·.1)) (acc : List (Str × Addr)) (n : Nat) : (cellsFrom n nm acc).lookup x = acc.lookup x := by
  rw [cellsFrom_app, List.lookup_append]
  cases q : (cellsFrom n nm []).lookup x with
  | none => rfl
  | some c => exact absurd (List.mem_map_of_mem (f := (·.1)) (mem_of_lookup q)) (hn n)
theorem ld_local (h : scope.names.lookup x = some .local) : ldOk (chEnv scope C env) x = true := by
  unfold ldOk; rw [kindOf_child, kind_keep (by decide) h]
theorem clOf_has {env : Env} : ∀ (names : List (Str × NameKind)) (acc : List (Str × Addr)) (x : Str), ((x, NameKind.free) ∈ names ∧ (env.cells.lookup x).isSome = true) ∨ (∃ c, (x, c) ∈ acc) → ∃ c, (x, c) ∈ clOf env names acc
  | [], acc, x, h => h.elim (fun h => nomatch h.1) id
  | (n, k) :: r, acc, x, h => by
    unfold clOf
    split
    · rename_i hk
      have hk' : k = .free := by simpa using hk
      subst hk'
      split
      · rename_i c hc
        refine clOf_has r _ x ?_
        rcases h with ⟨h, hs⟩ | ⟨c', h⟩
        · rcases List.mem_cons.mp h with e | h
          · cases e; exact .inr ⟨c, .head _⟩
          · exact .inl ⟨h, hs⟩
        · exact .inr ⟨c', .tail _ h⟩
      · rename_i hc
        refine clOf_has r _ x ?_
        rcases h with ⟨h, hs⟩ | h
        · rcases List.mem_cons.mp h with e | h
          · cases e; rw [hc] at hs; cases hs
          · exact .inl ⟨h, hs⟩
        · exact .inr h
    · rename_i hk
      refine clOf_has r _ x ?_
      rcases h with ⟨h, hs⟩ | h
      · rcases List.mem_cons.mp h with e | h
        · cases e; exact absurd rfl hk
        · exact .inl ⟨h, hs⟩
      · exact .inr h
theorem lookup_some_of_mem {α : Type} : ∀ {l : List (Str × α)} {x : Str} {a : α}, (x, a) ∈ l → (l.lookup x).isSome = true
  | (k, v) :: r, x, a, h => by
    rw [List.lookup_cons]
    cases q : x == k with
    | true => rfl
    | false =>
      rcases List.mem_cons.mp h with e | h
      · cases e; simp at q
      · exact lookup_some_of_mem h
theorem chCells_free (h : scope.names.lookup x = some .free) (hc : (env.cells.lookup x).isSome = true) : ((chEnv scope C env).cells.lookup x).isSome = true := by
  obtain ⟨c, hm⟩ := clOf_has (env := env) scope.names [] x (.inl ⟨mem_of_lookup h, hc⟩)
  show ((cellsFrom (C + 1) scope.names (clOf env scope.names [])).lookup x).isSome = true
  rw [cellsFrom_app]
  exact lookup_some_of_mem (List.mem_append_right _ hm)
theorem chCells_cell (h : scope.names.lookup x = some .cell) : ((chEnv scope C env).cells.lookup x).isSome = true := by
  show ((cellsFrom (C + 1) scope.names (clOf env scope.names [])).lookup x).isSome = true
  rw [cellsFrom_app, List.lookup_append]
  have := cellsFrom_has scope.names (C + 1) x (mem_of_lookup h)
  cases q : (cellsFrom (C + 1) scope.names []).lookup x with
  | none => rw [q] at this; cases this
  | some c => rfl
theorem ld_free (h : scope.names.lookup x = some .free) (hc : (env.cells.lookup x).isSome = true) : ldOk (chEnv scope C env) x = true := by
  unfold ldOk; rw [kindOf_child]
  rcases kind_free (env := env) h with e | e <;> rw [e] <;> exact chCells_free h hc
theorem ld_cell (h : scope.names.lookup x = some .cell) : ldOk (chEnv scope C env) x = true := by
  unfold ldOk; rw [kindOf_child, kind_keep (by decide) h]; exact chCells_cell h
theorem st_local (hnd : (scope.names.map (·.1)).Nodup) (h : scope.names.lookup x = some .local) : stOk (chEnv scope C env) x = true := by
  unfold stOk; rw [kindOf_child, kind_keep (by decide) h]
  show ((cellsFrom (C + 1) scope.names (clOf env scope.names [])).lookup x).isNone = true
  cases q : (cellsFrom (C + 1) scope.names (clOf env scope.names [])).lookup x with
  | none => rfl
  | some c =>
    have hm := mem_of_lookup q
    rw [cellsFrom_app] at hm
    rcases List.mem_append.mp hm with hm | hm
    · rw [lookup_of_nodup hnd (cellsFrom_kind _ _ _ _ hm).1] at h; cases h
    · rcases clOf_mem _ _ _ _ hm with z | z
      · nomatch z
      · rw [lookup_of_nodup hnd z.2] at h; cases h
theorem st_cell (h : scope.names.lookup x = some .cell) : stOk (chEnv scope C env) x = true := by
  unfold stOk; rw [kindOf_child, kind_keep (by decide) h]; exact chCells_cell h
theorem gl_child (h : scope.names.lookup x = some .globalImplicit) : (chEnv scope C env).kindOf x = some .globalImplicit := by
  rw [kindOf_child, kind_keep (by decide) h]
end
end Mine
end
-- Fw9
section
open PySem PySem.W PyProof.Rows PySem.Calls
set_option Elab.async false
set_option maxRecDepth 100000
set_option linter.unusedVariables false
namespace Mine
section
variable {prog : Program} {w : World} {A : Around} {s : Shared} {env : Env} {ρ : Str → Option Value}

/-! ## while -/
theorem While_wp {test : Expr} {body : List Stmt} {pos : Pos} {Q : Flow → Shared → Prop} (J : Nat → Shared → Prop)
    (step : ∀ n s₁, J n s₁ → ∃ b, Tst (model prog w) A test env s₁ b ∧
      (b = true → ∀ s₂, Ext s₁ s₂ → wpAny (model prog w) A (execs body env) (fun f s₃ => match f with
        | .next | .cont => ∃ m, m < n ∧ J m s₃
        | .brk => Q .next s₃
        | .ret v => Q (.ret v) s₃) (fun _ _ => False) s₂) ∧
      (b = false → ∀ s₂, Ext s₁ s₂ → Q .next s₂)) (n : Nat) (h : J n s) :
    wpAny (model prog w) A (exec (.While test body [] pos) env) Q (fun _ _ => False) s := by
  refine wpAny_While (codeAny_whileLoop (R := fun r s' => match r with | .ok f => Q f s' | .error e => cameBackBy (model prog w) A env (fun _ _ => False) e s') J (fun n s₁ hJ => ?_) n h)
  obtain ⟨b, ht, hy, hn⟩ := step n s₁ hJ
  refine wpAny_mono (ht s₁ .refl (fun c s₂ => c = b ∧ Ext s₁ s₂) fun s₂ x => ⟨rfl, x⟩) (fun c s₂ h => ?_) fun _ _ h => h.elim
  obtain ⟨rfl, x⟩ := h
  cases c with
  | true =>
    simp only [if_true]
    refine wpAny_mono (hy rfl s₂ x) (fun f s₃ h => ?_) fun _ _ h => h.elim
    cases f <;> exact h
  | false =>
    simp only [Bool.false_eq_true, if_false]
    exact wpAny_execs_nil (hn rfl s₂ x)

theorem len2 {α : Type} {l : List α} (h : l.length = 2) : ∃ a b, l = [a, b] := by
  cases l with
  | nil => cases h
  | cons a l => cases l with
    | nil => cases h
    | cons b l => exact ⟨a, b, by rw [List.length_eq_zero_iff.1 (Nat.succ.inj (Nat.succ.inj h))]⟩
theorem len3 {α : Type} {l : List α} (h : l.length = 3) : ∃ a b c, l = [a, b, c] := by
  cases l with
  | nil => cases h
  | cons a l =>
    obtain ⟨b, c, e⟩ := len2 (Nat.succ.inj h)
    exact ⟨a, b, c, by rw [e]⟩
/-! ## statements -/
theorem Seq_wp {st : Stmt} {rest : List Stmt} {Q : Flow → Shared → Prop}
    (h : wpAny (model prog w) A (exec st env) (fun f s' => match f with | .next => wpAny (model prog w) A (execs rest env) Q (fun _ _ => False) s' | f => Q f s') (fun _ _ => False) s) :
    wpAny (model prog w) A (execs (st :: rest) env) Q (fun _ _ => False) s := wpAny_execs_cons h
/-- as Seq_wp; what comes after is kept out of sight until it is asked for -/
theorem Seq_wp2 {st : Stmt} {rest : List Stmt} {Q : Flow → Shared → Prop}
    (h : ∀ K : Flow → Shared → Prop, (∀ s', wpAny (model prog w) A (execs rest env) Q (fun _ _ => False) s' → K .next s') → wpAny (model prog w) A (exec st env) K (fun _ _ => False) s) :
    wpAny (model prog w) A (execs (st :: rest) env) Q (fun _ _ => False) s := Seq_wp (h _ fun _ x => x)
theorem Ret_wp {e : Expr} {pos : Pos} {P : Value → Shared → Prop} {Q : Flow → Shared → Prop} (h : Ev (model prog w) A (eval e env) s P) (q : ∀ v s', P v s' → Ext s s' → Q (.ret v) s') :
    wpAny (model prog w) A (exec (.Return (some e) pos) env) Q (fun _ _ => False) s := wpAny_Return_some (h.use q)
theorem AssignN_wp {x : Str} {px pos : Pos} {e : Expr} {P : Value → Shared → Prop} {Q : Flow → Shared → Prop} (N : En env) (F : Fm env s.heap ρ) (h : Ev (model prog w) A (eval e env) s P) (hx : stOk env x = true)
    (q : ∀ v s₁ s', P v s₁ → Ext s s₁ → Chg (TgA env x) s₁ s' → Fm env s'.heap (upd ρ x v) → Chg (TgA env x) s s' → Q .next s')
    (hs : swapsWith e (some (.Name x px)) pos.line env = pure false := by rfl) : wpAny (model prog w) A (exec (.Assign [.Name x px] e pos) env) Q (fun _ _ => False) s :=
  wpAny_Assign_Name (h.use fun v s₁ p x1 => (F.ext x1).store N hx fun s' F' c => q v s₁ s' p x1 c F' (x1.any.trans c)) hs

/-! ## tuples -/
theorem Ev.spl {es : List Expr} {pos : Pos} {P : List Value → Shared → Prop} {Q : List Value → Shared → Prop} (h : EvL (model prog w) A es pos env s P) (q : ∀ vs s', P vs s' → Ext s s' → Q vs s') :
    wpAny (model prog w) A (spliced (backTo pos (starEach es env))) Q (fun _ _ => False) s := h s .refl Q q
theorem Ev.tuple {es : List Expr} {k : Nat} {pos : Pos} {P : List Value → Shared → Prop} (h : EvL (model prog w) A es pos env s P) (hl : ∀ vs s', P vs s' → vs.length ≤ 100)
    (hP : ∀ vs s₁ s₂, P vs s₁ → Ext s₁ s₂ → P vs s₂) :
    Ev (model prog w) A (eval (.Tuple es k pos) env) s (fun v s' => ∃ l vs, v = .ref l ∧ s.heap.get? l = none ∧ IsTup s'.heap l vs.toArray ∧ P vs s') :=
  fun s₁ x Q q => Tuple_ (h s₁ x _ fun vs s₂ p y => wpAny_newObj_type (q _ _ ⟨s₂.heap.objs.size, vs, rfl, (x.trans y).2 _ (size_none _), ⟨_, Heap.get?_push_size _ rfl, rfl, _, rfl⟩, hP _ _ _ p Ext.push⟩ (y.trans Ext.push))
    (by show vs.toArray.size ≤ sizeLine; have := hl vs s₂ p; rw [sizeLine_eq]; simp; (with_reducible exact Nat.le_trans (by assumption) (by decide))))
theorem Ev.listD {es : List Expr} {pos : Pos} {P : List Value → Shared → Prop} (h : EvL (model prog w) A es pos env s P) (hl : ∀ vs s', P vs s' → vs.length ≤ 100)
    (hP : ∀ vs s₁ s₂, P vs s₁ → Ext s₁ s₂ → P vs s₂) :
    Ev (model prog w) A (eval (.List es pos) env) s (fun v s' => ∃ l vs, v = .ref l ∧ s.heap.get? l = none ∧ s'.heap.IsList l vs.toArray ∧ P vs s') :=
  fun s₁ x Q q => List_ (h s₁ x _ fun vs s₂ p y => wpAny_newObj_type (q _ _ ⟨s₂.heap.objs.size, vs, rfl, (x.trans y).2 _ (size_none _), ⟨_, Heap.get?_push_size _ rfl, rfl, _, rfl⟩, hP _ _ _ p Ext.push⟩ (y.trans Ext.push))
    (by show vs.toArray.size ≤ sizeLine; have := hl vs s₂ p; rw [sizeLine_eq]; simp; (with_reducible exact Nat.le_trans (by assumption) (by decide))))

theorem unpack_wp {t : Addr} {vs : List Value} {n : Nat} {Q : List Value → Shared → Prop} (hh : A.handled = none) (ht : IsTup s.heap t vs.toArray) (hn : n = vs.length)
    (q : ∀ s', Ext s s' → Q vs s') : wpAny (model prog w) A (unpackItems (.ref t) n none) Q (fun _ _ => False) s := by
  subst hn
  have : vs.length = vs.toArray.size := by simp
  rw [this]
  refine wpAny_unpackItems_tuple hh ht fun h' he => ?_
  have := q { s with heap := h' } (Chg.extNew (Z := NoZ) .refl he (size_none _))
  simpa using this

/-- x, y = e₁, e₂ of locals: the machine stores the last first -/
theorem Assign2s_wp {x y : Str} {px py tp vp pos : Pos} {k k2 : Nat} {e₁ e₂ : Expr} {P : List Value → Shared → Prop} {Q : Flow → Shared → Prop} (hh : A.handled = none) (N : En env) (F : Fm env s.heap ρ)
    (h : EvL (model prog w) A [e₁, e₂] vp env s P) (hl : ∀ vs s', P vs s' → vs.length = 2) (hP : ∀ vs s₁ s₂, P vs s₁ → Ext s₁ s₂ → P vs s₂)
    (hx : stOk env x = true) (hy : stOk env y = true)
    (hw : swappedStores [.Tuple [.Name x px, .Name y py] k tp] (.Tuple [e₁, e₂] k2 vp) env = pure (some [x, y]))
    (q : ∀ v₁ v₂ s₁ s', P [v₁, v₂] s₁ → Ext s s₁ → Chg (Own env) s₁ s' → Fm env s'.heap (upd (upd ρ y v₂) x v₁) → Chg (Own env) s s' → Q .next s') :
    wpAny (model prog w) A (exec (.Assign [.Tuple [.Name x px, .Name y py] k tp] (.Tuple [e₁, e₂] k2 vp) pos) env) Q (fun _ _ => False) s := by
  refine Assign_Tuple_swapped ((Ev.tuple h (fun vs s' p => by have := hl vs s' p; omega) hP).use fun v s₁ ⟨l, vs, e, hn, ht, p⟩ x1 => ?_) (by rfl) hw
  subst e
  refine unpack_wp hh ht (by rw [hl vs s₁ p]; rfl) fun s₂ x2 => ?_
  obtain ⟨v₁, v₂, rfl⟩ := len2 (hl vs s₁ p)
  refine wpAny_assignInOrder_more (wpAny_bindName (((F.ext x1).ext x2).store N hy fun s₃ F3 c3 => ?_))
  refine wpAny_assignInOrder_more (wpAny_bindName (F3.store N hx fun s₄ F4 c4 => ?_))
  have c : Chg (Own env) s₂ s₄ := (c3.mono fun _ => TgA.own).trans (c4.mono fun _ => TgA.own)
  exact wpAny_assignInOrder_none (q v₁ v₂ s₂ s₄ (hP _ _ _ p x2) (x1.trans x2) c F4 ((Ext.any (x1.trans x2)).trans c))
end
end Mine
namespace Mine
section
variable {prog : Program} {w : World} {A : Around} {s : Shared} {env : Env} {ρ : Str → Option Value}
theorem Ev.nameI {x : Str} {pos : Pos} {n : Int} {t : Tok} (F : Fm env s.heap ρ) (N : En env) (hx : ldOk env x = true) (hv : ρ x = some (.int n t))
    (hd : (x == ("__debug__" : Str)) = false) (hn : (x == ("__classdict__" : Str)) = false) : Ev (model prog w) A (eval (.Name x pos) env) s (IsI n) :=
  (Ev.name F N hx hv hd hn).imp fun v s' e _ => ⟨t, e⟩
theorem Ev.nameB {x : Str} {pos : Pos} {b : Bool} (F : Fm env s.heap ρ) (N : En env) (hx : ldOk env x = true) (hv : ρ x = some (.bool b))
    (hd : (x == ("__debug__" : Str)) = false) (hn : (x == ("__classdict__" : Str)) = false) : Ev (model prog w) A (eval (.Name x pos) env) s (IsB b) :=
  (Ev.name F N hx hv hd hn).imp fun v s' e _ => e
theorem chRho_free {scope : Scope} {x : Str} (h : scope.names.lookup x = some .free) : chRho scope ρ x = ρ x := if_pos h
/-- abs(e) -/
theorem Ev.absC {f e : Expr} {pos : Pos} {n : Int} (hf : Ev (model prog w) A (eval f env) s (IsV (.builtin "abs"))) (h : Ev (model prog w) A (eval e env) s (IsI n))
    (he : eval (.Call f [e] [] pos) env = (do callWith pos (← eval f env) [] (backTo pos (starEach [e] env)) (backToKw pos (keywordEach [] env))) := by rfl)
    (he2 : starEach [e] env = (false, eval e env) :: starEach [] env := by rfl) (hp : (backTo pos (starEach [] env)).any (·.1) = false := by rfl) :
    Ev (model prog w) A (eval (.Call f [e] [] pos) env) s (IsI n.natAbs) :=
  Ev.callB hf (.cons h .nil IsI.mono he2) (fun vs s' ⟨v, r, e1, ⟨t, ev⟩, e2⟩ x => by
    subst e1 e2 ev
    refine Ev.abs.imp fun v s'' ⟨t, e⟩ _ => ⟨t, ?_⟩
    rw [e]; congr 1; split <;> omega) he he2 hp
theorem Ev.lenC {f e : Expr} {pos : Pos} {l : Addr} {n : Nat} {P : Nat → Value → Prop} (hf : Ev (model prog w) A (eval f env) s (IsV (.builtin "len"))) (h : Ev (model prog w) A (eval e env) s (IsV (.ref l)))
    (L : LV s.heap l n P) (hb : (n : Int) < 2 ^ 62)
    (he : eval (.Call f [e] [] pos) env = (do callWith pos (← eval f env) [] (backTo pos (starEach [e] env)) (backToKw pos (keywordEach [] env))) := by rfl)
    (he2 : starEach [e] env = (false, eval e env) :: starEach [] env := by rfl) (hp : (backTo pos (starEach [] env)).any (·.1) = false := by rfl) :
    Ev (model prog w) A (eval (.Call f [e] [] pos) env) s (IsI n) :=
  Ev.callB hf (.cons h .nil IsV.mono he2) (fun vs s' ⟨v, r, e1, ev, e2⟩ x => by
    cases ev; subst e1 e2
    exact Ev.len (L.ext x) hb) he he2 hp
/-- two ints in a display of arguments -/
theorem EvL.ints2 {e₁ e₂ : Expr} {pos : Pos} {a b : Int} (h1 : Ev (model prog w) A (eval e₁ env) s (IsI a)) (h2 : Ev (model prog w) A (eval e₂ env) s (IsI b))
    (he : starEach [e₁, e₂] env = (false, eval e₁ env) :: starEach [e₂] env := by rfl) (he2 : starEach [e₂] env = (false, eval e₂ env) :: starEach [] env := by rfl) :
    EvL (model prog w) A [e₁, e₂] pos env s (fun vs _ => ∃ t u, vs = [.int a t, .int b u]) := by
  have := EvL.cons (pos := pos) h1 (.cons h2 .nil IsI.mono he2) IsI.mono he
  exact fun s₁ x Q q => this s₁ x Q fun vs s' ⟨v, r, e, ⟨t, ev⟩, v2, r2, e2, ⟨u, ev2⟩, e3⟩ y => q _ _ ⟨t, u, by rw [e, ev, e2, ev2, e3]⟩ y
end
end Mine
end
-- Fw10
section
open PySem PySem.W PyProof.Rows PySem.Calls
set_option Elab.async false
set_option maxRecDepth 100000
set_option linter.unusedVariables false
namespace Mine

/-! ## binding, made normal -/
noncomputable def Nrm (ρ₀ : Str → Option Value) (Bd : Nat → (Str → Option Value) → (Str → Option Value) → Prop) (Bd' : Nat → (Str → Option Value) → Prop) : Prop :=
  ∃ G : (Str → Option Value) → Prop, G ρ₀ ∧ ∀ i ρ₁ ρ₂, G ρ₁ → Bd i ρ₁ ρ₂ → G ρ₂ ∧ Bd' i ρ₂
theorem upd_upd {ρ x a b} : upd (upd ρ x a) x b = upd ρ x b := by funext y; unfold upd; split <;> rfl
theorem upd4 {ρ x y a b a' b'} : upd (upd (upd (upd ρ x a) y b) x a') y b' = upd (upd ρ x a') y b' := by
  funext z; unfold upd; split
  · rfl
  · split <;> rfl
theorem Nrm.N {ρ₀ x P} : Nrm ρ₀ (BdN x P) (fun i ρ => ∃ v, P i v ∧ ρ = upd ρ₀ x v) :=
  ⟨fun ρ => ρ = ρ₀ ∨ ∃ v, ρ = upd ρ₀ x v, .inl rfl, fun i ρ₁ ρ₂ g ⟨v, p, e⟩ => by
    rcases g with rfl | ⟨u, rfl⟩
    · exact ⟨.inr ⟨v, e⟩, v, p, e⟩
    · rw [upd_upd] at e; exact ⟨.inr ⟨v, e⟩, v, p, e⟩⟩
theorem Nrm.E {ρ₀ x y P} : Nrm ρ₀ (BdE x y P) (fun i ρ => ∃ v t, P i v ∧ ρ = upd (upd ρ₀ x (.int i t)) y v) :=
  ⟨fun ρ => ρ = ρ₀ ∨ ∃ u v, ρ = upd (upd ρ₀ x u) y v, .inl rfl, fun i ρ₁ ρ₂ g ⟨v, t, p, e⟩ => by
    rcases g with rfl | ⟨u, u', rfl⟩
    · exact ⟨.inr ⟨_, _, e⟩, v, t, p, e⟩
    · rw [upd4] at e; exact ⟨.inr ⟨_, _, e⟩, v, t, p, e⟩⟩

structure Mx (h : Heap) (a : Addr) (n m : Nat) (r : Nat → Addr) (M : Nat → Nat → Int) : Prop where
  outer : LR h a n r
  row : ∀ i, i < n → LI h (r i) m (M i)
  inj : ∀ i j, i < n → j < n → r i = r j → i = j
  ne : ∀ i, i < n → r i ≠ a
noncomputable def Foot (a : Addr) (n : Nat) (r : Nat → Addr) (b : Addr) : Prop := b = a ∨ ∃ i, i < n ∧ b = r i
theorem Mx.keep {h h' a n m r M} (x : Mx h a n m r M) (k : ∀ b o, Foot a n r b → h.get? b = some o → h'.get? b = some o) : Mx h' a n m r M :=
  ⟨x.outer.keep fun o e => k _ o (.inl rfl) e, fun i hi => (x.row i hi).keep fun o e => k _ o (.inr ⟨i, hi, rfl⟩) e, x.inj, x.ne⟩
theorem Mx.chg {s s' : Shared} {Z a n m r M} (x : Mx s.heap a n m r M) (c : Chg Z s s') (h : ∀ b, Foot a n r b → ¬ Z b) : Mx s'.heap a n m r M :=
  x.keep fun b o f e => c.1 b o e (h b f)
theorem Mx.ext {s s' : Shared} {a n m r M} (x : Mx s.heap a n m r M) (c : Ext s s') : Mx s'.heap a n m r M := x.chg c fun _ _ h => h
theorem Mx.exF {h a n m r M} (x : Mx h a n m r M) {b} (f : Foot a n r b) : h.get? b ≠ none := by
  rcases f with rfl | ⟨i, hi, rfl⟩
  · exact x.outer.ne
  · exact (x.row i hi).ne
theorem Mx.seqF {h a n m r M} (x : Mx h a n m r M) {b} (f : Foot a n r b) : ∃ o xs k, h.get? b = some o ∧ o.data = .seq xs k := by
  rcases f with rfl | ⟨i, hi, rfl⟩
  · exact x.outer.seq
  · exact (x.row i hi).seq
theorem Mx.notOwn {env h ρ a n m r M} (F : Fm env h ρ) (x : Mx h a n m r M) {b} (f : Foot a n r b) : ¬ Own env b := fun q => by
  obtain ⟨o, xs, k, e, hd⟩ := x.seqF f; exact F.notSeq q e hd

section
variable {prog : Program} {w : World} {A : Around} {s : Shared} {env : Env} {ρ : Str → Option Value}

theorem Ev.compV {elt target iter : Expr} {scope : Scope} {pos : Pos} {B : Addr → Prop} {n : Nat} {Bd : Nat → (Str → Option Value) → (Str → Option Value) → Prop} {Bd' : Nat → (Str → Option Value) → Prop}
    (R : Nat → Value → Prop)
    (hh : A.handled = none) (N : En env) (F : Fm env s.heap ρ) (ok : compOk scope env = true) (hit : ItEv prog w A env target iter s B n Bd) (nr : Nrm (chRho scope ρ) Bd Bd')
    (tg : ∀ C, tgOk (chEnv scope C env) target = true) (tn : tgNew scope target = true) (hn : n ≤ 2 ^ 20)
    (hel : ∀ C i ρ₂ s₁, i < n → Ext s s₁ → Bd' i ρ₂ → Fm (chEnv scope C env) s₁.heap ρ₂ → En (chEnv scope C env) →
      Ev (model prog w) A (eval elt (chEnv scope C env)) s₁ (fun v _ => R i v))
    (hs : ∀ x, foldedSetIterable iter env x = pure x := by intro _; rfl) :
    Ev (model prog w) A (eval (.ListComp elt [⟨target, iter, [], 0⟩] scope pos) env) s (fun v s' => ∃ D, v = .ref D ∧ s.heap.get? D = none ∧ LV s'.heap D n R) := by
  obtain ⟨G, g0, gs⟩ := nr
  refine (Ev.compG (B := B) (n := n) (Bd := Bd) hh N F ok hit tg tn hn (fun _ i ys _ => ys.length = i ∧ ∀ j v, ys[j]? = some v → R j v) G (fun _ _ _ _ _ h _ => h) (fun _ _ _ _ _ => ⟨rfl, fun j v h => by simp at h⟩) g0 ?_ hs).imp ?_
  · intro D C i ρ₁ ρ₂ ys s₁ hi x hD ⟨hl, hA⟩ hG hB F1 N1
    obtain ⟨g2, b2⟩ := gs _ _ _ hG hB
    refine ⟨true, .nil, g2, fun h => (nomatch h), fun _ => (hel C i ρ₂ s₁ hi x b2 F1 N1).imp fun v s₂ hr _ _ => ⟨by simp [hl], fun j u hj => ?_⟩⟩
    rw [List.getElem?_append] at hj
    split at hj
    · exact hA j u hj
    · have : j = i := by
        cases e : j - ys.length with
        | zero => omega
        | succ k => rw [e] at hj; simp at hj
      subst this
      rw [hl] at hj; simp at hj; subst hj; exact hr
  · intro v s' zz2 _
    obtain ⟨D, ys, rfl, hD, hl, hlen, hA⟩ := zz2
    exact ⟨D, rfl, hD, ys.toArray, hl, by simpa using hlen, fun i v h => hA i v (by simpa using h)⟩

theorem Ev.compR {elt target iter : Expr} {scope : Scope} {pos : Pos} {B : Addr → Prop} {n m : Nat} {Bd : Nat → (Str → Option Value) → (Str → Option Value) → Prop} {Bd' : Nat → (Str → Option Value) → Prop}
    (M : Nat → Nat → Int)
    (hh : A.handled = none) (N : En env) (F : Fm env s.heap ρ) (ok : compOk scope env = true) (hit : ItEv prog w A env target iter s B n Bd) (nr : Nrm (chRho scope ρ) Bd Bd')
    (tg : ∀ C, tgOk (chEnv scope C env) target = true) (tn : tgNew scope target = true) (hn : n ≤ 2 ^ 20)
    (hel : ∀ C i ρ₂ s₁, i < n → Ext s s₁ → Bd' i ρ₂ → Fm (chEnv scope C env) s₁.heap ρ₂ → En (chEnv scope C env) →
      Ev (model prog w) A (eval elt (chEnv scope C env)) s₁ (fun v s₂ => ∃ q, v = .ref q ∧ s₁.heap.get? q = none ∧ LI s₂.heap q m (M i)))
    (hs : ∀ x, foldedSetIterable iter env x = pure x := by intro _; rfl) :
    Ev (model prog w) A (eval (.ListComp elt [⟨target, iter, [], 0⟩] scope pos) env) s (fun v s' => ∃ a r, v = .ref a ∧ Mx s'.heap a n m r M ∧ ∀ b, Foot a n r b → s.heap.get? b = none) := by
  obtain ⟨G, g0, gs⟩ := nr
  refine (Ev.compG (B := B) (n := n) (Bd := Bd) hh N F ok hit tg tn hn (fun D i ys s' => ∃ r : Nat → Addr, ys.length = i ∧ (∀ j, j < i → ys[j]? = some (.ref (r j)) ∧ LI s'.heap (r j) m (M j) ∧ s.heap.get? (r j) = none ∧ r j ≠ D) ∧ ∀ j k, j < i → k < i → r j = r k → j = k)
    G ?_ (fun D s₁ x h1 h2 => ⟨fun _ => 0, rfl, fun j h => absurd h (Nat.not_lt_zero j), fun j k h => absurd h (Nat.not_lt_zero j)⟩) g0 ?_ hs).imp ?_
  · intro D i ys s₁ s₂ zz5 sb
    obtain ⟨r, hl, hA, hj⟩ := zz5
    refine ⟨r, hl, fun j h => ⟨(hA j h).1, ?_, (hA j h).2.2⟩, hj⟩
    obtain ⟨o, xs, k, e, hd⟩ := (hA j h).2.1.seq
    exact (hA j h).2.1.keep fun o' e' => by
      rw [e] at e'; cases e'; exact sb _ o xs k e (hA j h).2.2.2 hd
  · intro D C i ρ₁ ρ₂ ys s₁ hi x hD zz10 hG hB F1 N1
    obtain ⟨r, hl, hA, hj⟩ := zz10
    obtain ⟨g2, b2⟩ := gs _ _ _ hG hB
    refine ⟨true, .nil, g2, fun h => (nomatch h), fun _ => (hel C i ρ₂ s₁ hi x b2 F1 N1).imp fun v s₂ hr x2 _ => ?_⟩
    obtain ⟨q, rfl, hq, hL⟩ := hr
    have hrq : ∀ j, j < i → r j ≠ q := fun j h e => (hA j h).2.1.ne (e ▸ hq)
    refine ⟨fun j => if j = i then q else r j, by simp [hl], fun j h => ?_, fun j k h1 h2 e => ?_⟩
    · by_cases h' : j = i
      · subst h'
        simp only [if_true]
        exact ⟨by rw [List.getElem?_append_right (by (with_reducible exact Nat.le_of_eq (by assumption)))]; simp [hl], hL, x.2 _ hq, fun e => hD (e ▸ hq)⟩
      · have hji : j < i := by omega
        simp only [h', if_false]
        exact ⟨by rw [List.getElem?_append_left (by omega)]; exact (hA j hji).1, (hA j hji).2.1.ext x2, (hA j hji).2.2⟩
    · dsimp only at e
      split at e <;> split at e
      · omega
      · rename_i q1 q2; exact absurd e.symm (hrq k (by omega))
      · exact absurd e (hrq j (by omega))
      · exact hj j k (by omega) (by omega) e
  · intro v s' zz2 _
    obtain ⟨D, ys, rfl, hD, hl, r, hlen, hA, hj⟩ := zz2
    refine ⟨D, r, rfl, ⟨⟨ys.toArray, hl, by simpa using hlen, fun i v h => ?_⟩, fun i hi => (hA i hi).2.1, hj, fun i hi => (hA i hi).2.2.2⟩, ?_⟩
    · have h' : ys[i]? = some v := by simpa using h
      have hi : i < n := by have := (List.getElem?_eq_some_iff.mp h').1; omega
      rw [(hA i hi).1] at h'; cases h'; rfl
    · rintro b (rfl | ⟨i, hi, rfl⟩)
      · exact hD
      · exact (hA i hi).2.2.1

/-- with one test -/
theorem Ev.compF {elt test target iter : Expr} {scope : Scope} {pos : Pos} {B : Addr → Prop} {n : Nat} {Bd : Nat → (Str → Option Value) → (Str → Option Value) → Prop} {Bd' : Nat → (Str → Option Value) → Prop}
    (p : Nat → Bool) (R : Nat → Value → Prop)
    (hh : A.handled = none) (N : En env) (F : Fm env s.heap ρ) (ok : compOk scope env = true) (hit : ItEv prog w A env target iter s B n Bd) (nr : Nrm (chRho scope ρ) Bd Bd')
    (tg : ∀ C, tgOk (chEnv scope C env) target = true) (tn : tgNew scope target = true) (hn : n ≤ 2 ^ 20)
    (hel : ∀ C i ρ₂ s₁, i < n → Ext s s₁ → Bd' i ρ₂ → Fm (chEnv scope C env) s₁.heap ρ₂ → En (chEnv scope C env) →
      Tst (model prog w) A test (chEnv scope C env) s₁ (p i) ∧ (p i = true → Ev (model prog w) A (eval elt (chEnv scope C env)) s₁ (fun v _ => R i v)))
    (hs : ∀ x, foldedSetIterable iter env x = pure x := by intro _; rfl) :
    Ev (model prog w) A (eval (.ListComp elt [⟨target, iter, [test], 0⟩] scope pos) env) s (fun v s' => ∃ D ys, v = .ref D ∧ s.heap.get? D = none ∧ s'.heap.IsList D ys.toArray ∧ Paired R ((List.range n).filter p) ys) := by
  obtain ⟨G, g0, gs⟩ := nr
  refine (Ev.compG (B := B) (n := n) (Bd := Bd) hh N F ok hit tg tn hn (fun _ i ys _ => Paired R ((List.range i).filter p) ys) G (fun _ _ _ _ _ h _ => h) (fun _ _ _ _ _ => .nil) g0 ?_ hs).imp ?_
  · intro D C i ρ₁ ρ₂ ys s₁ hi x hD hA hG hB F1 N1
    obtain ⟨g2, b2⟩ := gs _ _ _ hG hB
    obtain ⟨ht, he⟩ := hel C i ρ₂ s₁ hi x b2 F1 N1
    refine ⟨p i, .one ht, g2, fun h => ?_, fun h => (he h).imp fun v s₂ hr _ _ => ?_⟩
    · rw [List.range_succ, List.filter_append]; simpa [h] using hA
    · rw [List.range_succ, List.filter_append]; simp only [List.filter_cons, h, if_true, List.filter_nil]; exact hA.snoc hr
  · intro v s' zz2 _
    obtain ⟨D, ys, rfl, hD, hl, hA⟩ := zz2
    exact ⟨D, ys, rfl, hD, hl, hA⟩
end
end Mine
end
-- Fw11
section
open PySem PySem.W PyProof.Rows PySem.Calls
set_option Elab.async false
set_option maxRecDepth 100000
set_option linter.unusedVariables false
namespace Mine
abbrev HasC (env : Env) (x : Str) : Prop := (env.cells.lookup x).isSome = true
noncomputable def freeNames : List (Str × NameKind) → List Str
  | [] => []
  | (n, .free) :: r => n :: freeNames r
  | _ :: r => freeNames r
noncomputable def AllSome (env : Env) : List Str → Prop
  | [] => True
  | x :: r => (env.cells.lookup x).isSome = true ∧ AllSome env r
theorem freeOk_of {env : Env} : ∀ {names : List (Str × NameKind)}, AllSome env (freeNames names) → freeOk env names = true
  | [], _ => rfl
  | (n, k) :: r, h => by
    unfold freeOk
    rw [List.all_cons, Bool.and_eq_true]
    cases k with
    | free => exact ⟨by simpa using h.1, freeOk_of h.2⟩
    | _ => exact ⟨rfl, freeOk_of h⟩
theorem compOk_of {scope : Scope} {env : Env} (hk : scope.kind = .function) (hnd : (scope.names.map (·.1)).Nodup) (hf : AllSome env (freeNames scope.names)) : compOk scope env = true := by
  unfold compOk
  rw [freeOk_of hf, hk]
  simp [hnd]
section
variable {prog : Program} {w : World} {A : Around} {s : Shared} {env : Env} {ρ : Str → Option Value}
theorem ItEv.rangeN {x : Str} {px : Pos} {iter : Expr} {lo hi : Int} {k : Nat} (h : Ev (model prog w) A (eval iter env) s (IsRg lo hi)) (e : (hi - lo).toNat = k) (hlo : -(2 ^ 60) ≤ lo) (hlo2 : lo < 2 ^ 60) (hhi : hi < 2 ^ 60) (hhi2 : -(2 ^ 60) ≤ hi) :
    ItEv prog w A env (.Name x px) iter s (fun b => False) k (BdN x fun i v => ∃ t, v = .int (lo + i) t) :=
  e ▸ ItEv.range h (by omega) (by omega) (by omega) (by omega)
theorem tgN {x : Str} {p : Pos} (h : stOk env x = true) : tgOk env (.Name x p) = true := h
theorem tgE {x y : Str} {p p' p2 : Pos} {k : Nat} (h : stOk env x = true) (h' : stOk env y = true) : tgOk env (.Tuple [.Name x p, .Name y p'] k p2) = true := by simp [tgOk, h, h']
theorem Ev.mat {o e₁ e₂ : Expr} {q₂ q₃ : Pos} {l : Addr} {n m i j : Nat} {r : Nat → Addr} {M : Nat → Nat → Int} (ho : Ev (model prog w) A (eval o env) s (IsV (.ref l))) (hM : Mx s.heap l n m r M)
    (E₁ : Ev (model prog w) A (eval e₁ env) s (IsI (i : Int))) (E₂ : Ev (model prog w) A (eval e₂ env) s (IsI (j : Int))) (hi : i < n) (hj : j < m) (hn : n ≤ 1000) (hm : m ≤ 1000)
    (k₁ : ∀ l k u, subscripted e₁ false (.ref l) (.int k u) = operate [.ref l, .int k u] (getItem (.ref l) (.int k u)) := by intros; with_unfolding_all rfl)
    (k₂ : ∀ l k u, subscripted e₂ false (.ref l) (.int k u) = operate [.ref l, .int k u] (getItem (.ref l) (.int k u)) := by intros; with_unfolding_all rfl) :
    Ev (model prog w) A (eval (.Subscript (.Subscript o e₁ q₂) e₂ q₃) env) s (IsI (M i j)) := by
  have o1 : Ev (model prog w) A (eval (.Subscript o e₁ q₂) env) s (IsV (.ref (r i))) := Ev.item ho E₁ hM.outer (by (with_reducible exact Int.natCast_nonneg _)) (by (with_reducible exact Int.ofNat_lt.2 (by assumption))) (by (with_reducible exact Mine.castUp (by assumption) (by decide))) k₁
  exact Ev.item o1 E₂ (hM.row i hi) (by (with_reducible exact Int.natCast_nonneg _)) (by (with_reducible exact Int.ofNat_lt.2 (by assumption))) (by (with_reducible exact Mine.castUp (by assumption) (by decide))) k₂
theorem Tst.ltN {l r : Expr} {pos : Pos} {a b : Nat} (hl : Ev (model prog w) A (eval l env) s (IsI (a : Int))) (hr : Ev (model prog w) A (eval r env) s (IsI (b : Int)))
    (hm : behindInMarks .Lt r = false := by with_unfolding_all rfl) : Tst (model prog w) A (.Compare l [.Lt] [r] pos) env s (decide (a < b)) := by
  have := Tst.lt (pos := pos) hl hr hm
  rwa [show decide ((a : Int) < (b : Int)) = decide (a < b) by simp] at this
theorem Tst.gtN {l r : Expr} {pos : Pos} {a b : Nat} (hl : Ev (model prog w) A (eval l env) s (IsI (a : Int))) (hr : Ev (model prog w) A (eval r env) s (IsI (b : Int)))
    (hm : behindInMarks .Gt r = false := by with_unfolding_all rfl) : Tst (model prog w) A (.Compare l [.Gt] [r] pos) env s (decide (b < a)) := by
  have := Tst.gt (pos := pos) hl hr hm
  rwa [show decide ((b : Int) < (a : Int)) = decide (b < a) by simp] at this
theorem Ev.castI {t : Sem Value} {a b : Int} (h : Ev (model prog w) A t s (IsI a)) (e : a = b) : Ev (model prog w) A t s (IsI b) := e ▸ h
theorem not_isB {b : Bool} : (!b) = true ↔ b = false := by cases b <;> simp
end
end Mine
end
-- Fw12
section
open PySem PySem.W PyProof.Rows PySem.Calls
set_option Elab.async false
set_option maxRecDepth 100000
set_option linter.unusedVariables false
namespace Mine
noncomputable def setF {α : Type} (f : Nat → α) (i : Nat) (x : α) : Nat → α := fun k => if k = i then x else f k
noncomputable def swp (i j k : Nat) : Nat := if k = i then j else if k = j then i else k
section
variable {prog : Program} {w : World} {A : Around} {s : Shared} {env : Env} {ρ : Str → Option Value}

theorem setItem_LV {l : Addr} {n : Nat} {P : Nat → Value → Prop} {k : Int} {t : Tok} {v : Value} {Q : Unit → Shared → Prop} (L : LV s.heap l n P) (h0 : 0 ≤ k) (hn : k < n) (hb : n ≤ 2 ^ 20)
    (q : ∀ s', LV s'.heap l n (fun j u => if j = k.toNat then u = v else P j u) → Chg (fun b => b = l) s s' → Q () s') :
    wpAny (model prog w) A (setItem (.ref l) (.int k t) v) Q (fun _ _ => False) s := by
  obtain ⟨vs, hl, hz, hP⟩ := L
  refine wpAny_setItem_list hl h0 (by omega) (by omega) fun h' hl' hs => q _ ⟨_, hl', by simpa using hz, fun i u hu => ?_⟩ (Chg.same hs (by obtain ⟨o, ho, _⟩ := hl'; exact some_ne ho))
  rw [Array.getElem?_setIfInBounds] at hu
  split at hu
  · rename_i e; subst e
    split at hu
    · simp only [if_true]; cases hu; rfl
    · cases hu
  · rename_i e
    rw [if_neg (Ne.symm e)]; exact hP i u hu

theorem asgItem_wp {o i : Expr} {pos : Pos} {v : Value} {l : Addr} {n : Nat} {P : Nat → Value → Prop} {k : Int} {Q : Unit → Shared → Prop} (ho : Ev (model prog w) A (eval o env) s (IsV (.ref l)))
    (hi : Ev (model prog w) A (eval i env) s (IsI k)) (L : LV s.heap l n P) (h0 : 0 ≤ k) (hn : k < n) (hb : n ≤ 2 ^ 20)
    (q : ∀ s₁ s', Ext s s₁ → LV s'.heap l n (fun j u => if j = k.toNat then u = v else P j u) → Chg (fun b => b = l) s₁ s' → Chg (fun b => b = l) s s' → Q () s') :
    wpAny (model prog w) A (assign (.Subscript o i pos) env v) Q (fun _ _ => False) s :=
  kas_sub (ho.use fun ov s₁ e x => by
    cases e
    exact (hi.up x).use fun iv s₂ ⟨t, e⟩ y => by
      subst e
      exact setItem_LV ((L.ext x).ext y) h0 hn hb fun s' L' c => q s₂ s' (x.trans y) L' c ((Ext.any (x.trans y)).trans c))

theorem AsgSub_wp {o i e : Expr} {p' pos : Pos} {R : Value → Shared → Prop} {l : Addr} {n : Nat} {P : Nat → Value → Prop} {k : Int} {Q : Flow → Shared → Prop} (he : Ev (model prog w) A (eval e env) s R)
    (ho : Ev (model prog w) A (eval o env) s (IsV (.ref l))) (hi : Ev (model prog w) A (eval i env) s (IsI k)) (L : LV s.heap l n P) (h0 : 0 ≤ k) (hn : k < n) (hb : n ≤ 2 ^ 20)
    (q : ∀ v s₁ s₂ s', R v s₁ → Ext s s₁ → Ext s₁ s₂ → LV s'.heap l n (fun j u => if j = k.toNat then u = v else P j u) → Chg (fun b => b = l) s₂ s' → Chg (fun b => b = l) s s' → Q .next s')
    (hs : swapsWith e (some (.Subscript o i p')) pos.line env = pure false := by rfl) :
    wpAny (model prog w) A (exec (.Assign [.Subscript o i p'] e pos) env) Q (fun _ _ => False) s :=
  wpAny_Assign_Subscript (he.use fun v s₁ r x => (ho.up x).use fun ov s₂ e y => by
    cases e
    exact (hi.up (x.trans y)).use fun iv s₃ ⟨t, e⟩ z => by
      subst e
      exact setItem_LV (((L.ext x).ext y).ext z) h0 hn hb fun s' L' c => q v s₁ s₃ s' r x (y.trans z) L' c ((Ext.any (x.trans (y.trans z))).trans c)) hs

/-- two targets that are no names, at once -/
theorem Assign2_wp {t₁ t₂ e₁ e₂ : Expr} {tp vp pos : Pos} {k k2 : Nat} {P : List Value → Shared → Prop} {Q : Flow → Shared → Prop} (hh : A.handled = none)
    (h : EvL (model prog w) A [e₁, e₂] vp env s P) (hl : ∀ vs s', P vs s' → vs.length = 2) (hP : ∀ vs s₁ s₂, P vs s₁ → Ext s₁ s₂ → P vs s₂)
    (hw : swappedStores [.Tuple [t₁, t₂] k tp] (.Tuple [e₁, e₂] k2 vp) env = pure none)
    (q : ∀ v₁ v₂ s₁, P [v₁, v₂] s₁ → Ext s s₁ → wpAny (model prog w) A (assign t₁ env v₁) (fun _ s₂ => wpAny (model prog w) A (assign t₂ env v₂) (fun _ s₃ => Q .next s₃) (fun _ _ => False) s₂) (fun _ _ => False) s₁)
    (ha : assignEach [t₁, t₂] env = [(false, assign t₁ env), (false, assign t₂ env)] := by rfl) :
    wpAny (model prog w) A (exec (.Assign [.Tuple [t₁, t₂] k tp] (.Tuple [e₁, e₂] k2 vp) pos) env) Q (fun _ _ => False) s := by
  refine Assign_Tuple ((Ev.tuple h (fun vs s' p => by have := hl vs s' p; omega) hP).use fun v s₁ ⟨l, vs, e, hn, ht, p⟩ x1 => ?_) (by rfl) hw
  subst e
  obtain ⟨v₁, v₂, rfl⟩ := len2 (hl vs s₁ p)
  refine wpAny_assign_Tuple hh ht (by rw [ha]; rfl) (by rw [ha]; rfl) fun h' he => ?_
  rw [ha]
  have x2 : Ext s₁ { s₁ with heap := h' } := Chg.extNew (Z := NoZ) .refl he (size_none _)
  exact wpAny_assignInOrder_more (wpAny_mono (q v₁ v₂ _ (hP _ _ _ p x2) (x1.trans x2)) (fun _ s₂ h => wpAny_assignInOrder_more (wpAny_mono h (fun _ s₃ h => wpAny_assignInOrder_none h) fun _ _ h => h)) fun _ _ h => h)

/-- two values in a display of arguments -/
theorem EvL.two {e₁ e₂ : Expr} {pos : Pos} {P R : Value → Shared → Prop} (h1 : Ev (model prog w) A (eval e₁ env) s P) (h2 : Ev (model prog w) A (eval e₂ env) s R)
    (hP : ∀ v s₁ s₂, P v s₁ → Ext s₁ s₂ → P v s₂) (hR : ∀ v s₁ s₂, R v s₁ → Ext s₁ s₂ → R v s₂)
    (he : starEach [e₁, e₂] env = (false, eval e₁ env) :: starEach [e₂] env := by rfl) (he2 : starEach [e₂] env = (false, eval e₂ env) :: starEach [] env := by rfl) :
    EvL (model prog w) A [e₁, e₂] pos env s (fun vs s' => ∃ a b, vs = [a, b] ∧ P a s' ∧ R b s') := by
  have := EvL.cons (pos := pos) h1 (.cons h2 .nil hR he2) hP he
  exact fun s₁ x Q q => this s₁ x Q fun vs s' ⟨v, r, e, p, v2, r2, e2, p2, e3⟩ y => q _ _ ⟨v, v2, by rw [e, e2, e3], p, p2⟩ y
theorem EvL.three {e₁ e₂ e₃ : Expr} {pos : Pos} {P R S : Value → Shared → Prop} (h1 : Ev (model prog w) A (eval e₁ env) s P) (h2 : Ev (model prog w) A (eval e₂ env) s R) (h3 : Ev (model prog w) A (eval e₃ env) s S)
    (hP : ∀ v s₁ s₂, P v s₁ → Ext s₁ s₂ → P v s₂) (hR : ∀ v s₁ s₂, R v s₁ → Ext s₁ s₂ → R v s₂) (hS : ∀ v s₁ s₂, S v s₁ → Ext s₁ s₂ → S v s₂)
    (he : starEach [e₁, e₂, e₃] env = (false, eval e₁ env) :: starEach [e₂, e₃] env := by rfl) (he2 : starEach [e₂, e₃] env = (false, eval e₂ env) :: starEach [e₃] env := by rfl) (he3 : starEach [e₃] env = (false, eval e₃ env) :: starEach [] env := by rfl) :
    EvL (model prog w) A [e₁, e₂, e₃] pos env s (fun vs s' => ∃ a b c, vs = [a, b, c] ∧ P a s' ∧ R b s' ∧ S c s') := by
  have := EvL.cons (pos := pos) h1 (.cons h2 (.cons h3 .nil hS he3) hR he2) hP he
  exact fun s₁ x Q q => this s₁ x Q fun vs s' ⟨v, r, e, p, v2, r2, e2, p2, v3, r3, e3, p3, e4⟩ y => q _ _ ⟨v, v2, v3, by rw [e, e2, e3, e4], p, p2, p3⟩ y
theorem EvL.one {e₁ : Expr} {pos : Pos} {P : Value → Shared → Prop} (h1 : Ev (model prog w) A (eval e₁ env) s P)
    (hP : ∀ v s₁ s₂, P v s₁ → Ext s₁ s₂ → P v s₂) (he : starEach [e₁] env = (false, eval e₁ env) :: starEach [] env := by rfl) :
    EvL (model prog w) A [e₁] pos env s (fun vs s' => ∃ a, vs = [a] ∧ P a s') := by
  have := EvL.cons (pos := pos) h1 .nil hP he
  exact fun s₁ x Q q => this s₁ x Q fun vs s' ⟨v, r, e, p, e4⟩ y => q _ _ ⟨v, by rw [e, e4], p⟩ y
theorem EvL.imp {es : List Expr} {pos : Pos} {P P' : List Value → Shared → Prop} (h : EvL (model prog w) A es pos env s P) (k : ∀ v s', P v s' → Ext s s' → P' v s') : EvL (model prog w) A es pos env s P' :=
  fun s₁ x Q q => h s₁ x _ fun v s' p y => q v s' (k v s' p (x.trans y)) y

/-! ## matrices changed -/
theorem Mx.sys {s s' : Shared} {a n m r M} (x : Mx s.heap a n m r M) (F : Fm env s.heap ρ) (y : Sys env s s') : Mx s'.heap a n m r M :=
  ⟨x.outer.sys F y, fun i hi => (x.row i hi).sys F y, x.inj, x.ne⟩
theorem Mx.congr {h a n m r M M'} (x : Mx h a n m r M) (e : ∀ i j, i < n → j < m → M i j = M' i j) : Mx h a n m r M' :=
  ⟨x.outer, fun i hi => (x.row i hi).imp fun j v hj ⟨t, hv⟩ => ⟨t, by rw [hv, e i j hi hj]⟩, x.inj, x.ne⟩
/-- a row's list was changed in place -/
theorem Mx.setRow {s s' : Shared} {a n m r M i f} (x : Mx s.heap a n m r M) (hi : i < n) (c : Chg (fun b => b = r i) s s') (L : LI s'.heap (r i) m f) : Mx s'.heap a n m r (setF M i f) :=
  ⟨x.outer.chg c (Ne.symm (x.ne i hi)), fun j hj => by
    by_cases e : j = i
    · subst e; simp only [setF, if_true]; exact L
    · simp only [setF, e, if_false]; exact (x.row j hj).chg c fun q => e (x.inj j i hj hi q), x.inj, x.ne⟩
/-- a row was replaced by another list -/
theorem Mx.putRow {s s' : Shared} {a n m r M i f q} (x : Mx s.heap a n m r M) (hi : i < n) (c : Chg (fun b => b = a) s s') (L : LI s'.heap q m f) (hq : ∀ b, Foot a n r b → b ≠ q)
    (O : LV s'.heap a n (fun j u => if j = i then u = .ref q else u = .ref (r j))) : Mx s'.heap a n m (setF r i q) (setF M i f) :=
  ⟨O.imp fun j v hj h => by unfold setF; split at h <;> simp_all, fun j hj => by
    by_cases e : j = i
    · subst e; simp only [setF, if_true]; exact L
    · simp only [setF, e, if_false]; exact (x.row j hj).chg c (x.ne j hj), fun j k hj hk e => by
      unfold setF at e
      split at e <;> split at e
      · omega
      · exact absurd e.symm (hq _ (.inr ⟨k, hk, rfl⟩))
      · exact absurd e (hq _ (.inr ⟨j, hj, rfl⟩))
      · exact x.inj j k hj hk e, fun j hj => by
      unfold setF; split
      · exact Ne.symm (hq a (.inl rfl))
      · exact x.ne j hj⟩
theorem Foot.put {a n r i q b} (h : Foot a n (setF r i q) b) : Foot a n r b ∨ b = q := by
  rcases h with rfl | ⟨j, hj, rfl⟩
  · exact .inl (.inl rfl)
  · unfold setF; split
    · exact .inr rfl
    · exact .inl (.inr ⟨j, hj, rfl⟩)
theorem swp_lt {i j k n : Nat} (hi : i < n) (hj : j < n) (hk : k < n) : swp i j k < n := by
  unfold swp
  by_cases h1 : k = i
  · rw [if_pos h1]; exact hj
  · rw [if_neg h1]
    by_cases h2 : k = j
    · rw [if_pos h2]; exact hi
    · rw [if_neg h2]; exact hk
theorem swp_inj {i j a b : Nat} (h : swp i j a = swp i j b) : a = b := by
  unfold swp at h
  grind
/-- two rows exchanged -/
theorem Mx.swap {s s' : Shared} {a n m r M i k} (x : Mx s.heap a n m r M) (hi : i < n) (hk : k < n) (c : Chg (fun b => b = a) s s')
    (O : LV s'.heap a n (fun j u => u = .ref (r (swp i k j)))) : Mx s'.heap a n m (fun j => r (swp i k j)) (fun j => M (swp i k j)) :=
  ⟨O, fun j hj => (x.row _ (swp_lt hi hk hj)).chg c (x.ne _ (swp_lt hi hk hj)), fun j l hj hl e => swp_inj (x.inj _ _ (swp_lt hi hk hj) (swp_lt hi hk hl) e), fun j hj => x.ne _ (swp_lt hi hk hj)⟩
theorem Foot.swap {a n r i k b} (hi : i < n) (hk : k < n) (h : Foot a n (fun j => r (swp i k j)) b) : Foot a n r b := by
  rcases h with rfl | ⟨j, hj, rfl⟩
  · exact .inl rfl
  · exact .inr ⟨_, swp_lt hi hk hj, rfl⟩
end
end Mine
end
-- Fw13
section
open PySem PySem.W PyProof.Rows PySem.Calls
set_option Elab.async false
set_option maxRecDepth 100000
set_option linter.unusedVariables false
namespace Mine
noncomputable def Dis (P R : Addr → Prop) : Prop := ∀ b, P b → R b → False
theorem En.inter {env : Env} (N : En env) : interactive env = false := by unfold interactive; rw [N.kind]; rfl
section
variable {prog : Program} {w : World} {A : Around} {s : Shared} {env : Env} {ρ : Str → Option Value} {K : Frag} {hb : Heap}

theorem For2_wp {x : Str} {px pos : Pos} {iter : Expr} {body : List Stmt} {mods : Addr → Prop} {v₀ v₁ : Value} {Q : Flow → Shared → Prop}
    (hh : A.handled = none) (N : En env) (F : Fm env s.heap ρ) (tg : stOk env x = true)
    (hit : Ev (model prog w) A (eval iter env) s (fun v s' => ∃ l, v = .ref l ∧ s.heap.get? l = none ∧ s'.heap.IsTuple l [v₀, v₁].toArray))
    (hex : ∀ b, mods b → s.heap.get? b ≠ none) (hown : ∀ b, Own env b → mods b)
    (J₀ J₁ J₂ : (Str → Option Value) → Shared → Prop)
    (Jq : ∀ ρ s₁ s₂, Chg mods s s₁ → Fm env s₁.heap ρ → Sys env s₁ s₂ → (J₀ ρ s₁ → J₀ ρ s₂) ∧ (J₁ ρ s₁ → J₁ ρ s₂) ∧ (J₂ ρ s₁ → J₂ ρ s₂))
    (h0 : ∀ s₁, Ext s s₁ → J₀ ρ s₁)
    (step₀ : ∀ ρ₁ s₁, J₀ ρ₁ s₁ → Fm env s₁.heap (upd ρ₁ x v₀) → Chg mods s s₁ → wpAny (model prog w) A (execs body env) (fun f s₂ => f = .next ∧ Chg mods s₁ s₂ ∧ ∃ ρ₃, Fm env s₂.heap ρ₃ ∧ J₁ ρ₃ s₂) (fun _ _ => False) s₁)
    (step₁ : ∀ ρ₁ s₁, J₁ ρ₁ s₁ → Fm env s₁.heap (upd ρ₁ x v₁) → Chg mods s s₁ → wpAny (model prog w) A (execs body env) (fun f s₂ => f = .next ∧ Chg mods s₁ s₂ ∧ ∃ ρ₃, Fm env s₂.heap ρ₃ ∧ J₂ ρ₃ s₂) (fun _ _ => False) s₁)
    (fin : ∀ ρ₁ s₁, J₂ ρ₁ s₁ → Fm env s₁.heap ρ₁ → Chg mods s s₁ → Q .next s₁)
    (hs : ∀ x, foldedSetIterable iter env x = pure x := by intro _; rfl) :
    wpAny (model prog w) A (exec (.For (.Name x px) iter body [] pos) env) Q (fun _ _ => False) s := by
  refine For_wp (mods := mods) (B := fun b => s.heap.get? b = none) (n := 2) hh N F (tgN tg) (ItEv.tuple (vs := [v₀, v₁]) hit) (fun b e z => hex b z e) hex hown
    (fun k ρ s' => match k with | 0 => J₀ ρ s' | 1 => J₁ ρ s' | _ => J₂ ρ s') ?_ h0 ?_ fin hs
  · intro i ρ s₁ s₂ h c F1 y
    match i, h with
    | 0, h => exact (Jq ρ s₁ s₂ c F1 y).1 h
    | 1, h => exact (Jq ρ s₁ s₂ c F1 y).2.1 h
    | _ + 2, h => exact (Jq ρ s₁ s₂ c F1 y).2.2 h
  · intro i ρ₁ ρ₂ s₁ hi h ⟨v, hv, e⟩ F2 c
    match i, hi, h, hv with
    | 0, _, h, hv =>
      cases hv; subst e
      exact wpAny_mono (step₀ ρ₁ s₁ h F2 c) (fun f s₂ ⟨e, c2, r⟩ => by subst e; exact ⟨c2, r⟩) fun _ _ h => h
    | 1, _, h, hv =>
      cases hv; subst e
      exact wpAny_mono (step₁ ρ₁ s₁ h F2 c) (fun f s₂ ⟨e, c2, r⟩ => by subst e; exact ⟨c2, r⟩) fun _ _ h => h

theorem callG_wp {x : Str} {p pos : Pos} {fa : Addr} {e : Expr} {es : List Expr} {P : List Value → Shared → Prop} {Q : Value → Shared → Prop}
    (nm : nsIn K mainGlobals x = some (some (.ref fa))) (fn : ∃ o fd, K.lookup fa = some o ∧ o.data = .func fd) (a : Am K hb) (up : Up hb s) (N : En env) (gl : env.kindOf x = some .globalImplicit)
    (ha : EvL (model prog w) A (e :: es) pos env s P)
    (h : ∀ vs s', P vs s' → Ext s s' → wpAny (model prog w) A (call (.ref fa) vs) Q (fun _ _ => False) s')
    (hd : (x == ("__debug__" : Str)) = false := by rfl)
    (he : eval (.Call (.Name x p) (e :: es) [] pos) env = (do callWith pos (← eval (.Name x p) env) [] (backTo pos (starEach (e :: es) env)) (backToKw pos (keywordEach [] env))) := by rfl)
    (he2 : starEach (e :: es) env = (false, eval e env) :: starEach es env := by rfl) :
    wpAny (model prog w) A (eval (.Call (.Name x p) (e :: es) [] pos) env) Q (fun _ _ => False) s := by
  obtain ⟨o, fd, ho, hd'⟩ := fn
  exact callF_wp (Ev.glob a up N gl nm hd) (up _ _ (a.kin _ _ ho)) hd' ha h he he2
theorem Ev.callG {x : Str} {p pos : Pos} {fa : Addr} {e : Expr} {es : List Expr} {P : List Value → Shared → Prop} {R : Value → Shared → Prop}
    (nm : nsIn K mainGlobals x = some (some (.ref fa))) (fn : ∃ o fd, K.lookup fa = some o ∧ o.data = .func fd) (a : Am K hb) (up : Up hb s) (N : En env) (gl : env.kindOf x = some .globalImplicit)
    (ha : EvL (model prog w) A (e :: es) pos env s P)
    (h : ∀ vs s', P vs s' → Ext s s' → Ev (model prog w) A (call (.ref fa) vs) s' R)
    (hd : (x == ("__debug__" : Str)) = false := by rfl)
    (he : eval (.Call (.Name x p) (e :: es) [] pos) env = (do callWith pos (← eval (.Name x p) env) [] (backTo pos (starEach (e :: es) env)) (backToKw pos (keywordEach [] env))) := by rfl)
    (he2 : starEach (e :: es) env = (false, eval e env) :: starEach es env := by rfl) :
    Ev (model prog w) A (eval (.Call (.Name x p) (e :: es) [] pos) env) s R := by
  obtain ⟨o, fd, ho, hd'⟩ := fn
  exact Ev.callF (Ev.glob a up N gl nm hd) (up _ _ (a.kin _ _ ho)) hd' ha h he he2

/-- x, y = e: a pair unpacked -/
theorem AssignP_wp {x y : Str} {px py tp pos : Pos} {k : Nat} {e : Expr} {T : Addr} {v₁ v₂ : Value} {Q : Flow → Shared → Prop} (hh : A.handled = none) (N : En env) (F : Fm env s.heap ρ)
    (h : Ev (model prog w) A (eval e env) s (IsV (.ref T))) (hT : IsTup s.heap T [v₁, v₂].toArray) (hx : stOk env x = true) (hy : stOk env y = true)
    (hw : swappedStores [.Tuple [.Name x px, .Name y py] k tp] e env = pure none)
    (q : ∀ s', Fm env s'.heap (upd (upd ρ x v₁) y v₂) → Chg (Own env) s s' → Q .next s')
    (hs : swapsWithSole [.Tuple [.Name x px, .Name y py] k tp] e pos.line env = pure false := by rfl)
    (ha : assignEach [.Name x px, .Name y py] env = [(false, assign (.Name x px) env), (false, assign (.Name y py) env)] := by rfl) :
    wpAny (model prog w) A (exec (.Assign [.Tuple [.Name x px, .Name y py] k tp] e pos) env) Q (fun _ _ => False) s := by
  refine Assign_Tuple (h.use fun v s₁ ev x1 => ?_) hs hw
  cases ev
  refine wpAny_assign_Tuple hh (hT.keeps x1.all) (by rw [ha]; rfl) (by rw [ha]; rfl) fun h' he => ?_
  rw [ha]
  have x2 : Ext s₁ { s₁ with heap := h' } := Chg.extNew (Z := NoZ) .refl he (size_none _)
  refine wpAny_assignInOrder_more (wpAny_assign_Name (((F.ext x1).ext x2).store N hx fun s₃ F3 c3 => ?_))
  refine wpAny_assignInOrder_more (wpAny_assign_Name (F3.store N hy fun s₄ F4 c4 => wpAny_assignInOrder_none (q s₄ F4 ?_)))
  exact (Ext.any (x1.trans x2)).trans ((c3.mono fun _ => TgA.own).trans (c4.mono fun _ => TgA.own))
theorem Expr_wp {e : Expr} {pos : Pos} {Q : Flow → Shared → Prop} (h : wpAny (model prog w) A (eval e env) (fun v s' => v = .none ∧ Q .next s') (fun _ _ => False) s)
    (hi : interactive env = false) (hs : swapsWith e none pos.line env = pure false := by rfl) : wpAny (model prog w) A (exec (.Expr e pos) env) Q (fun _ _ => False) s :=
  wpAny_Expr (wpAny_mono h (fun v s' ⟨e, q⟩ => by subst e; exact q) fun _ _ h => h) hi hs
theorem Ev.tuple2 {e₁ e₂ : Expr} {k : Nat} {pos : Pos} {v₁ v₂ : Value} (h1 : Ev (model prog w) A (eval e₁ env) s (IsV v₁)) (h2 : Ev (model prog w) A (eval e₂ env) s (IsV v₂))
    (he : starEach [e₁, e₂] env = (false, eval e₁ env) :: starEach [e₂] env := by rfl) (he2 : starEach [e₂] env = (false, eval e₂ env) :: starEach [] env := by rfl) :
    Ev (model prog w) A (eval (.Tuple [e₁, e₂] k pos) env) s (fun v s' => ∃ l, v = .ref l ∧ s.heap.get? l = none ∧ s'.heap.IsTuple l [v₁, v₂].toArray) :=
  (Ev.tuple (EvL.two h1 h2 IsV.mono IsV.mono he he2) (by rintro vs s' ⟨a, b, rfl, _⟩; simp) (fun _ _ _ h _ => h)).imp fun v s' ⟨l, vs, e, hn, ht, a, b, e2, ea, eb⟩ _ => by
    cases ea; cases eb; subst e2; exact ⟨l, e, hn, ht⟩

/-- x[y], x[z] = x[z], x[y]: two rows of a matrix exchanged -/
theorem SwapRows_wp {x y z : Str} {q1 q2 q3 q4 q5 q6 q7 q8 q9 q10 q11 q12 tp vp pos : Pos} {k k2 : Nat} {l : Addr} {n m i j : Nat} {r : Nat → Addr} {M : Nat → Nat → Int} {t₁ t₂ : Tok} {Q : Flow → Shared → Prop}
    (hh : A.handled = none) (N : En env) (F : Fm env s.heap ρ) (hM : Mx s.heap l n m r M) (hx : ldOk env x = true) (hy : ldOk env y = true) (hz : ldOk env z = true)
    (vx : ρ x = some (.ref l)) (vy : ρ y = some (.int i t₁)) (vz : ρ z = some (.int j t₂)) (hi : i < n) (hj : j < n) (hn : n ≤ 1000)
    (q : ∀ s', Mx s'.heap l n m (fun c => r (swp i j c)) (fun c => M (swp i j c)) → Chg (fun b => b = l) s s' → Fm env s'.heap ρ → Q .next s')
    (hw : swappedStores [.Tuple [.Subscript (.Name x q1) (.Name y q2) q3, .Subscript (.Name x q4) (.Name z q5) q6] k tp] (.Tuple [.Subscript (.Name x q7) (.Name z q8) q9, .Subscript (.Name x q10) (.Name y q11) q12] k2 vp) env = pure none)
    (d1 : (x == ("__debug__" : Str)) = false := by rfl) (d2 : (y == ("__debug__" : Str)) = false := by rfl) (d3 : (z == ("__debug__" : Str)) = false := by rfl)
    (c1 : (x == ("__classdict__" : Str)) = false := by rfl) (c2 : (y == ("__classdict__" : Str)) = false := by rfl) (c3 : (z == ("__classdict__" : Str)) = false := by rfl) :
    wpAny (model prog w) A (exec (.Assign [.Tuple [.Subscript (.Name x q1) (.Name y q2) q3, .Subscript (.Name x q4) (.Name z q5) q6] k tp] (.Tuple [.Subscript (.Name x q7) (.Name z q8) q9, .Subscript (.Name x q10) (.Name y q11) q12] k2 vp) pos) env) Q (fun _ _ => False) s := by
  refine Assign2_wp (P := fun vs _ => vs = [.ref (r j), .ref (r i)]) hh ?_ (by rintro vs s' rfl; rfl) (fun _ _ _ h _ => h) hw ?_
  · refine (EvL.two (P := IsV (.ref (r j))) (R := IsV (.ref (r i))) (Ev.item (k := (j : Int)) (Ev.name F N hx vx d1 c1) (Ev.nameI F N hz vz d3 c3) hM.outer (by (with_reducible exact Int.natCast_nonneg _)) (by (with_reducible exact Int.ofNat_lt.2 (by assumption))) (by (with_reducible exact Mine.castUp (by assumption) (by decide))))
      (Ev.item (k := (i : Int)) (Ev.name F N hx vx d1 c1) (Ev.nameI F N hy vy d2 c2) hM.outer (by (with_reducible exact Int.natCast_nonneg _)) (by (with_reducible exact Int.ofNat_lt.2 (by assumption))) (by (with_reducible exact Mine.castUp (by assumption) (by decide)))) IsV.mono IsV.mono).imp ?_
    intro vs s' zz2 _
    obtain ⟨a, b, rfl, ea, eb⟩ := zz2
    cases ea; cases eb; rfl
  rintro v₁ v₂ s₁ e x1
  cases e
  have F1 := F.ext x1
  have M1 := hM.ext x1
  refine asgItem_wp (Ev.name F1 N hx vx d1 c1) (Ev.nameI F1 N hy vy d2 c2) M1.outer (by (with_reducible exact Int.natCast_nonneg _)) (by (with_reducible exact Int.ofNat_lt.2 (by assumption))) (by (with_reducible exact Nat.le_trans (by assumption) (by decide))) ?_
  intro s₂ s₃ _ L3 _ c13
  have nO : ¬ Own env l := M1.notOwn F1 (.inl rfl)
  have F3 := F1.chg c13 fun b hb e => nO (e ▸ hb)
  refine asgItem_wp (Ev.name F3 N hx vx d1 c1) (Ev.nameI F3 N hz vz d3 c3) L3 (by (with_reducible exact Int.natCast_nonneg _)) (by (with_reducible exact Int.ofNat_lt.2 (by assumption))) (by (with_reducible exact Nat.le_trans (by assumption) (by decide))) ?_
  intro s₄ s₅ _ L5 _ c35
  have c : Chg (fun b => b = l) s s₅ := (Ext.any x1).trans (c13.trans c35)
  refine q s₅ (hM.swap hi hj c (L5.imp fun c u hc h => ?_)) c (F3.chg c35 fun b hb e => nO (e ▸ hb))
  simp only [Int.toNat_natCast] at h
  unfold swp
  by_cases e2 : c = j
  · rw [if_pos e2] at h
    rw [h]
    by_cases e1 : c = i
    · rw [if_pos e1, ← e2, e1]
    · rw [if_neg e1, if_pos e2]
  · rw [if_neg e2] at h
    by_cases e1 : c = i
    · rw [if_pos e1] at h; rw [if_pos e1, h]
    · rw [if_neg e1] at h; rw [if_neg e1, if_neg e2, h]
end
end Mine
end
-- Fw14
section
open PySem PySem.W PyProof.Rows PySem.Calls
set_option Elab.async false
set_option maxRecDepth 100000
set_option linter.unusedVariables false
namespace Mine
section
variable {prog : Program} {w : World} {A : Around} {s : Shared} {env : Env} {ρ : Str → Option Value}

theorem iter_enum {x y : Str} {px py tp : Pos} {k : Nat} {e it l : Addr} {n : Nat} {P : Nat → Value → Prop} (hh : A.handled = none) (hei : e ≠ it) (hel : e ≠ l) (hil : it ≠ l) :
    Iter prog w A (.Tuple [.Name x px, .Name y py] k tp) e (fun b => (b = e ∨ b = it) ∨ b = l) (fun b => b = e ∨ b = it) n (BdE x y P)
      (fun i s => (∃ old, IsEnum s.heap e it (i : Nat) old) ∧ s.heap.IsListIter it l i ∧ LV s.heap l n P) where
  frame := fun i s s' ⟨⟨old, h1⟩, h2, h3⟩ kk => ⟨⟨old, kk _ _ (.inl (.inl rfl)) h1⟩, h2.at fun o e => kk _ o (.inl (.inr rfl)) e, h3.keep fun o e => kk _ o (.inr rfl) e⟩
  turn := fun env i s ρ Q N tg hi ⟨⟨old, h1⟩, h2, h3⟩ F hfp q => by
    obtain ⟨vs, hl, hz, hP, hat⟩ := h3.at
    obtain ⟨v, hv⟩ := hat i hi
    simp only [tgOk, Bool.and_eq_true] at tg
    refine wpAny_pyNext_enum_item h1 h2 hl hv hei fun h' he' hit' hT' hsz hk' => ?_
    have hTn := size_none s.heap
    generalize hTT : s.heap.objs.size = T at he' hT' hTn
    have hTe : T ≠ e := fun q => by rw [q] at hTn; rw [h1] at hTn; cases hTn
    have hTi : T ≠ it := fun q => by obtain ⟨o, ho, _⟩ := h2; rw [q] at hTn; rw [ho] at hTn; cases hTn
    have c1 : Chg (fun b => b = e ∨ b = it) s { s with heap := h', toks := s.toks + 1 } := by
      refine ⟨fun b o eo n => hk' b o (fun q => n (.inl q)) (fun q => n (.inr q)) eo, fun b eo => ?_, rfl, rfl⟩
      by_cases q1 : b = e
      · subst q1; rw [show h'.get? b = _ from he'] at eo; cases eo
      · by_cases q2 : b = it
        · subst q2; obtain ⟨o, ho, _⟩ := hit'; rw [show h'.get? b = _ from ho] at eo; cases eo
        · cases q3 : s.heap.get? b with
          | none => rfl
          | some o => rw [show h'.get? b = _ from hk' b o q1 q2 q3] at eo; cases eo
    dsimp only
    refine wpAny_letOwnedTupleGo_enum he' fun h₂ he₂ hs₂ => ?_
    have c2 : Chg (fun b => b = e) { s with heap := h', toks := s.toks + 1 } { s with heap := h₂, toks := s.toks + 1 } := Chg.same (s := { s with heap := h', toks := s.toks + 1 }) hs₂ (some_ne he₂)
    have c12 : Chg (fun b => b = e ∨ b = it) s { s with heap := h₂, toks := s.toks + 1 } := c1.trans (c2.mono fun b e => .inl e)
    have hT2 : IsTup h₂ T [Value.int (i : Nat) s.toks, v].toArray := ⟨_, c2.1 _ _ hT' hTe, rfl, _, rfl⟩
    have F2 : Fm env h₂ ρ := F.chg c12 fun b hb z => hfp b (.inl z) hb
    have ha : assignEach [.Name x px, .Name y py] env = [(false, assign (.Name x px) env), (false, assign (.Name y py) env)] := rfl
    refine wpAny_assign_Tuple (s := { s with heap := h₂, toks := s.toks + 1 }) hh hT2 (by rw [ha]; rfl) (by rw [ha]; rfl) fun h₃ he₃ => ?_
    rw [ha]
    have x3 : Ext { s with heap := h₂, toks := s.toks + 1 } { s with heap := h₃, toks := s.toks + 1 } := Chg.extNew (Z := NoZ) (s₀ := { s with heap := h₂, toks := s.toks + 1 }) (s := { s with heap := h₂, toks := s.toks + 1 }) .refl he₃ (size_none _)
    refine wpAny_assignInOrder_more (wpAny_assign_Name (Fm.store (s := { s with heap := h₃, toks := s.toks + 1 }) (F2.keep fun b o _ e => x3.all b o e) N tg.1 fun s₄ F4 c4 => ?_))
    refine wpAny_assignInOrder_more (wpAny_assign_Name (F4.store N tg.2 fun s₅ F5 c5 => wpAny_assignInOrder_none (q s₅ _ ⟨v, s.toks, hP i v hv, rfl⟩ F5 ⟨⟨v, ?_⟩, ?_, ?_⟩ ?_)))
    · have e1 : ((i : Int) + 1) = ((i + 1 : Nat) : Int) := by omega
      rw [e1] at he₂
      exact c5.1 _ _ (c4.1 _ _ (x3.all _ _ he₂) fun z => hfp e (.inl (.inl rfl)) z.own) fun z => hfp e (.inl (.inl rfl)) z.own
    · exact hit'.at fun o e => c5.1 _ o (c4.1 _ o (x3.all _ _ (c2.1 _ o e (Ne.symm hei))) fun z => hfp it (.inl (.inr rfl)) z.own) fun z => hfp it (.inl (.inr rfl)) z.own
    · exact h3.keep fun o eo => c5.1 _ o (c4.1 _ o (x3.all _ _ (c12.1 _ o eo fun z => z.elim (fun z => hel z.symm) fun z => hil z.symm)) fun z => hfp l (.inr rfl) z.own) fun z => hfp l (.inr rfl) z.own
    · exact (c12.mono fun b e => .inl e).trans ((Ext.any x3).trans ((c4.mono fun b e => .inr (.inl e)).trans (c5.mono fun b e => .inr (.inr e))))
  done := fun s Q hh ⟨⟨old, h1⟩, h2, h3⟩ q => by
    obtain ⟨vs, hl, hz, hP⟩ := h3
    refine wpAny_pyNext_enum_end hh h1 h2 hl (by simp [hz]) fun h' hs => ⟨rfl, q _ (fun b o e n => hs b o (fun z => n (.inr z)) e) fun Z s₀ c hn => c.extNew hs (hn it (.inr rfl))⟩
  self := fun i s Q E ⟨⟨old, h1⟩, h2, h3⟩ q => wpAny_pyIter_enum h1 q
  fld := fun i s ⟨⟨old, h1⟩, h2, h3⟩ b e => by
    rcases e with rfl | rfl
    · exact ⟨_, _, h1, rfl⟩
    · exact IsListIter.fldD h2
  ownI := fun b e => .inl e
  kd := fun i s ⟨⟨old, h1⟩, h2, h3⟩ b e => by
    rcases e with (rfl | rfl) | rfl
    · exact ⟨_, h1, .inl ⟨_, rfl⟩⟩
    · obtain ⟨o, xs, ho, hd⟩ := IsListIter.fldD h2; exact ⟨o, ho, .inl ⟨xs, hd⟩⟩
    · obtain ⟨o2, xs, k, e, h⟩ := h3.seq; exact ⟨o2, e, .inr ⟨xs, k, h⟩⟩

theorem Ev.enumE {pos : Pos} {f arg : Expr} {l : Addr} {n : Nat} {P : Nat → Value → Prop} (hf : Ev (model prog w) A (eval f env) s (IsV (.type "enumerate")))
    (h : Ev (model prog w) A (eval arg env) s (IsV (.ref l))) (L : LV s.heap l n P)
    (he : eval (.Call f [arg] [] pos) env = (do callWith pos (← eval f env) [] (backTo pos (starEach [arg] env)) (backToKw pos (keywordEach [] env))))
    (he2 : starEach [arg] env = (false, eval arg env) :: starEach [] env) (hp : (backTo pos (starEach [] env)).any (·.1) = false) :
    Ev (model prog w) A (eval (.Call f [arg] [] pos) env) s (fun v s' => ∃ e it, v = .ref e ∧ e ≠ it ∧ IsEnum s'.heap e it 0 .none ∧ s'.heap.IsListIter it l 0 ∧ s.heap.get? e = none ∧ s.heap.get? it = none) := by
  refine Ev.callT hf (.cons h .nil IsV.mono he2) ?_ he he2 hp
  intro vs s' zz2 x
  obtain ⟨v, r, e1, ev, e2⟩ := zz2
  cases ev; subst e1 e2
  intro s₁ y Q q
  obtain ⟨vs, hl, _⟩ := (L.ext x).ext y
  refine call_enumerate_list hl fun h' he' hit' hsz hk => q _ _ ⟨_, _, rfl, Nat.succ_ne_self _, he', hit', ?_, ?_⟩ (Ext.of_keep hk)
  · refine x.2 _ (y.2 _ ?_)
    cases e : s₁.heap.get? (s₁.heap.objs.size + 1) with
    | none => rfl
    | some o => exact absurd (Heap.lt_size e) (Nat.not_lt.mpr (Nat.le_succ _))
  · exact x.2 _ (y.2 _ (size_none _))

theorem ItEv.enum {x y : Str} {px py tp pos : Pos} {k : Nat} {f arg : Expr} {l : Addr} {n : Nat} {P : Nat → Value → Prop} (hh : A.handled = none) (hf : Ev (model prog w) A (eval f env) s (IsV (.type "enumerate")))
    (h : Ev (model prog w) A (eval arg env) s (IsV (.ref l))) (L : LV s.heap l n P)
    (he : eval (.Call f [arg] [] pos) env = (do callWith pos (← eval f env) [] (backTo pos (starEach [arg] env)) (backToKw pos (keywordEach [] env))) := by rfl)
    (he2 : starEach [arg] env = (false, eval arg env) :: starEach [] env := by rfl) (hp : (backTo pos (starEach [] env)).any (·.1) = false := by rfl) :
    ItEv prog w A env (.Tuple [.Name x px, .Name y py] k tp) (.Call f [arg] [] pos) s (fun b => b = l) n (BdE x y P) := by
  intro s₁ z Q q
  have L1 := L.ext z
  refine (Ev.enumE (hf.up z) (h.up z) L1 he he2 hp) s₁ .refl _ fun v s₂ ⟨e, it, ev, hei, h1, h2, n1, n2⟩ u => ?_
  subst ev
  have hel : e ≠ l := fun q => L1.ne (q ▸ n1)
  have hil : it ≠ l := fun q => L1.ne (q ▸ n2)
  refine wpAny_pyIter_enum h1 (q _ _ _ _ _ (iter_enum (P := P) (n := n) hh hei hel hil) ⟨⟨.none, h1⟩, h2, L1.ext u⟩ u ?_ ?_)
  · rintro b (rfl | rfl)
    · exact n1
    · exact n2
  · exact fun b h => h
/-- e and f, both bools -/
theorem Ev.andB {e f : Expr} {pos : Pos} {b c : Bool} (h : Ev (model prog w) A (eval e env) s (IsB b)) (h' : b = true → Ev (model prog w) A (eval f env) s (IsB c)) :
    Ev (model prog w) A (eval (.BoolOp .And [e, f] pos) env) s (IsB (b && c)) :=
  fun s₁ x Q q => wpAny_And2 (h s₁ x _ fun v s₂ ev y => by
    cases ev
    refine wpAny_truthy_bool ?_
    cases b with
    | false => simp only [Bool.false_eq_true, if_false]; exact q _ _ rfl y
    | true => simp only [if_true]; exact h' rfl s₂ (x.trans y) _ fun v s₃ ev z => q v s₃ (by cases ev; rfl) (y.trans z))
theorem Ev.eqI {l r : Expr} {pos : Pos} {a b : Int} (hl : Ev (model prog w) A (eval l env) s (IsI a)) (hr : Ev (model prog w) A (eval r env) s (IsI b))
    (hm : behindInMarks .Eq r = false := by with_unfolding_all rfl) : Ev (model prog w) A (eval (.Compare l [.Eq] [r] pos) env) s (IsB (a == b)) :=
  .cmp hl hr IsI.mono (fun _ _ _ ⟨_, ea⟩ ⟨_, eb⟩ _ => by subst ea eb; exact .ofIsB fun _ _ _ h => eq_int h) hm
theorem bits_le {a : Int} (h : a.natAbs < 2 ^ 63) : Builtin.Int.intBits a ≤ 64 := by
  unfold Builtin.Int.intBits
  split
  · decide
  · rename_i h0
    have h1 : a.natAbs ≠ 0 := by simpa using h0
    have := (Nat.log2_lt h1).mpr h
    omega
theorem mulOk_l {a b : Int} (h : a.natAbs < 2 ^ 63) : IntMulOk a b := .of_left (bits_le h)
theorem mulOk_r {a b : Int} (h : b.natAbs < 2 ^ 63) : IntMulOk a b := .of_right (bits_le h)
theorem noPy {a b : Int} (h : b.natAbs < 2 ^ 63) : Builtin.divisionGoesByPylong a b = false := by
  refine PyProof.noPylong_of_log2 ?_
  by_cases h0 : b.natAbs = 0
  · rw [h0]; decide
  · have := (Nat.log2_lt h0).mpr h
    (with_reducible exact Nat.lt_of_lt_of_le (by assumption) (by decide))
theorem ediv_abs {a b : Int} (h : 0 < b) : (a / b).natAbs ≤ a.natAbs := by
  rcases Int.lt_or_le a 0 with ha | ha
  · have h1 : a / b < 0 := Int.ediv_neg_of_neg_of_pos ha h
    have h2 : a ≤ a / b := Int.le_ediv_of_mul_le h (by
      have := Int.mul_le_mul_of_nonpos_left (show (a : Int) ≤ 0 by (with_reducible exact Int.le_of_lt (by assumption))) (show (1 : Int) ≤ b by omega)
      omega)
    omega
  · have h1 : 0 ≤ a / b := Int.ediv_nonneg ha (by (with_reducible exact Int.le_of_lt (by assumption)))
    have h2 : a / b ≤ a := Int.ediv_le_self b ha
    omega
theorem fdiv_abs {a b : Int} : (a.fdiv b).natAbs ≤ a.natAbs := by
  by_cases hb : b = 0
  · subst hb; simp
  · rcases Int.lt_or_lt_of_ne hb with h | h
    · rw [← Int.neg_fdiv_neg, Int.fdiv_eq_ediv_of_nonneg _ (by omega)]
      have := ediv_abs (a := -a) (b := -b) (by omega)
      omega
    · rw [Int.fdiv_eq_ediv_of_nonneg _ (by (with_reducible exact Int.le_of_lt (by assumption)))]
      exact ediv_abs h
end
end Mine
end
-- Fw15
section
open PySem PySem.W PyProof.Rows PySem.Calls
set_option Elab.async false
set_option maxRecDepth 100000
set_option linter.unusedVariables false
namespace Mine
/-- new addresses alone are added -/
noncomputable def Grow (s : Shared) (P P' : Addr → Prop) : Prop := ∀ b, P' b → P b ∨ s.heap.get? b = none
theorem Grow.refl {s P} : Grow s P P := fun _ h => .inl h
theorem Grow.trans {s s' : Shared} {Z P P' P''} (g : Grow s P P') (c : Chg Z s s') (g' : Grow s' P' P'') : Grow s P P'' := fun b h => (g' b h).elim (g b) fun h => .inr (c.2 b h)
theorem Grow.up {s s' : Shared} {Z P P'} (g : Grow s' P P') (c : Chg Z s s') : Grow s P P' := fun b h => (g b h).imp id (c.2 b)
theorem Grow.dis {s : Shared} {P P' R : Addr → Prop} (g : Grow s P P') (d : Dis P R) (hR : ∀ b, R b → s.heap.get? b ≠ none) : Dis P' R := fun b h h' => (g b h).elim (fun h => d b h h') (hR b h')
theorem Dis.symm {P R : Addr → Prop} (d : Dis P R) : Dis R P := fun b h h' => d b h' h
section
variable {prog : Program} {w : World} {A : Around} {s : Shared} {env : Env} {ρ : Str → Option Value}

theorem PutRow_wp {o i e : Expr} {p' pos : Pos} {l : Addr} {n m k : Nat} {r : Nat → Addr} {M : Nat → Nat → Int} {f : Nat → Int} {Q : Flow → Shared → Prop} (hM : Mx s.heap l n m r M)
    (he : Ev (model prog w) A (eval e env) s (fun v s' => ∃ D, v = .ref D ∧ s.heap.get? D = none ∧ LI s'.heap D m f))
    (ho : Ev (model prog w) A (eval o env) s (IsV (.ref l))) (hi : Ev (model prog w) A (eval i env) s (IsI (k : Int))) (hk : k < n) (hb : n ≤ 1000)
    (q : ∀ s' D, Mx s'.heap l n m (setF r k D) (setF M k f) → s.heap.get? D = none → Chg (fun b => b = l) s s' → Q .next s')
    (hs : swapsWith e (some (.Subscript o i p')) pos.line env = pure false := by rfl) :
    wpAny (model prog w) A (exec (.Assign [.Subscript o i p'] e pos) env) Q (fun _ _ => False) s :=
  AsgSub_wp he ho hi hM.outer (by (with_reducible exact Int.natCast_nonneg _)) (by (with_reducible exact Int.ofNat_lt.2 (by assumption))) (by (with_reducible exact Nat.le_trans (by assumption) (by decide))) (fun v s₁ s₂ s' ⟨D, e, hn, L⟩ x y O c c' => by
    subst e
    have hDl : D ≠ l := fun q => hM.outer.ne (q ▸ hn)
    refine q s' D ((hM.ext x).ext y |>.putRow hk c ((L.ext y).chg c hDl) (fun b f q => hM.exF f (q ▸ hn)) ?_) hn c'
    simpa using O) hs

theorem For2M_wp {x : Str} {px pos : Pos} {iter : Expr} {body : List Stmt} {l₀ l₁ : Addr} {n m : Nat} {r₀ r₁ : Nat → Addr} {M₀ M₁ : Nat → Nat → Int} (T : (Nat → Nat → Int) → Nat → Nat → Int) {Q : Flow → Shared → Prop}
    (hh : A.handled = none) (N : En env) (F : Fm env s.heap ρ) (tg : stOk env x = true)
    (hit : Ev (model prog w) A (eval iter env) s (fun v s' => ∃ l, v = .ref l ∧ s.heap.get? l = none ∧ s'.heap.IsTuple l [.ref l₀, .ref l₁].toArray))
    (h₀ : Mx s.heap l₀ n m r₀ M₀) (h₁ : Mx s.heap l₁ n m r₁ M₁) (d : Dis (Foot l₀ n r₀) (Foot l₁ n r₁))
    (R : (Str → Option Value) → Prop) (hR : R ρ)
    (one : ∀ l r M ρ₁ s₁ (Q' : Flow → Shared → Prop), (l = l₀ ∨ l = l₁) → Mx s₁.heap l n m r M → R ρ₁ → Fm env s₁.heap (upd ρ₁ x (.ref l)) → Chg (fun b => Own env b ∨ Foot l₀ n r₀ b ∨ Foot l₁ n r₁ b) s s₁ →
      (∀ s₂ ρ₃ r', Mx s₂.heap l n m r' (T M) → R ρ₃ → Fm env s₂.heap ρ₃ → Chg (fun b => Own env b ∨ Foot l n r b) s₁ s₂ → Grow s₁ (Foot l n r) (Foot l n r') → Q' .next s₂) →
      wpAny (model prog w) A (execs body env) Q' (fun _ _ => False) s₁)
    (fin : ∀ s₁ ρ₁ r₀' r₁', Mx s₁.heap l₀ n m r₀' (T M₀) → Mx s₁.heap l₁ n m r₁' (T M₁) → R ρ₁ → Fm env s₁.heap ρ₁ → Chg (fun b => Own env b ∨ Foot l₀ n r₀ b ∨ Foot l₁ n r₁ b) s s₁ →
      Grow s (Foot l₀ n r₀) (Foot l₀ n r₀') → Grow s (Foot l₁ n r₁) (Foot l₁ n r₁') → Dis (Foot l₀ n r₀') (Foot l₁ n r₁') → Q .next s₁)
    (hs : ∀ x, foldedSetIterable iter env x = pure x := by intro _; rfl) :
    wpAny (model prog w) A (exec (.For (.Name x px) iter body [] pos) env) Q (fun _ _ => False) s := by
  refine For2_wp (mods := fun b => Own env b ∨ Foot l₀ n r₀ b ∨ Foot l₁ n r₁ b) (v₀ := .ref l₀) (v₁ := .ref l₁) hh N F tg hit
    (fun b z => z.elim (fun z => F.exOwn z) fun z => z.elim (fun z => h₀.exF z) fun z => h₁.exF z) (fun b z => .inl z)
    (fun ρ s' => R ρ ∧ Mx s'.heap l₀ n m r₀ M₀ ∧ Mx s'.heap l₁ n m r₁ M₁)
    (fun ρ s' => R ρ ∧ ∃ r₀', Mx s'.heap l₀ n m r₀' (T M₀) ∧ Mx s'.heap l₁ n m r₁ M₁ ∧ Grow s (Foot l₀ n r₀) (Foot l₀ n r₀') ∧ Dis (Foot l₀ n r₀') (Foot l₁ n r₁))
    (fun ρ s' => R ρ ∧ ∃ r₀' r₁', Mx s'.heap l₀ n m r₀' (T M₀) ∧ Mx s'.heap l₁ n m r₁' (T M₁) ∧ Grow s (Foot l₀ n r₀) (Foot l₀ n r₀') ∧ Grow s (Foot l₁ n r₁) (Foot l₁ n r₁') ∧ Dis (Foot l₀ n r₀') (Foot l₁ n r₁'))
    ?_ (fun s₁ x => ⟨hR, h₀.ext x, h₁.ext x⟩) ?_ ?_ ?_ hs
  · exact fun ρ s₁ s₂ _ F1 y => ⟨fun ⟨h, a, b⟩ => ⟨h, a.sys F1 y, b.sys F1 y⟩, fun ⟨h, r, a, b, c⟩ => ⟨h, r, a.sys F1 y, b.sys F1 y, c⟩, fun ⟨h, r, r', a, b, c⟩ => ⟨h, r, r', a.sys F1 y, b.sys F1 y, c⟩⟩
  · intro ρ₁ s₁ zz2 F1 c
    obtain ⟨hR1, a, b⟩ := zz2
    refine one l₀ r₀ M₀ ρ₁ s₁ _ (.inl rfl) a hR1 F1 c fun s₂ ρ₃ r' a2 hR2 F2 c2 g => ⟨rfl, c2.mono fun b z => z.imp id .inl, ρ₃, F2, hR2, r', a2, b.chg c2 ?_, g.up c, g.dis d fun b' f => ?_⟩
    · exact fun b' f z => z.elim (fun z => b.notOwn F1 f z) fun z => d b' z f
    · exact b.exF f
  · intro ρ₁ s₁ zz2 F1 c
    obtain ⟨hR1, r₀', a, b, g0, d0⟩ := zz2
    refine one l₁ r₁ M₁ ρ₁ s₁ _ (.inr rfl) b hR1 F1 c fun s₂ ρ₃ r' b2 hR2 F2 c2 g => ⟨rfl, c2.mono fun b z => z.imp id .inr, ρ₃, F2, hR2, r₀', r', a.chg c2 ?_, b2, g0, g.up c, (g.dis d0.symm fun b' f => ?_).symm⟩
    · exact fun b' f z => z.elim (fun z => a.notOwn F1 f z) fun z => d0 b' f z
    · exact a.exF f
  · intro ρ₁ s₁ zz2 F1 c
    obtain ⟨hR1, r₀', r₁', a, b, g0, g1, d1⟩ := zz2
    exact fin s₁ ρ₁ r₀' r₁' a b hR1 F1 c g0 g1 d1
end
end Mine
end
-- Nm
section
open PySem PySem.W PyProof.Rows PySem.Calls
set_option Elab.async false
set_option maxRecDepth 100000
set_option linter.unusedVariables false
namespace Mine
noncomputable abbrev KK (w : World) : Frag := heapK w.params
theorem ld_of {env e : Env} {x : Str} (h : env = e) (k : ldOk e x = true) : ldOk env x = true := h ▸ k
theorem st_of {env e : Env} {x : Str} (h : env = e) (k : stOk e x = true) : stOk env x = true := h ▸ k
theorem hasC_of {env e : Env} {x : Str} (h : env = e) (k : HasC e x) : HasC env x := h ▸ k
theorem kd_of {env e : Env} {x : Str} {q : Option NameKind} (h : env = e) (k : e.kindOf x = q) : env.kindOf x = q := h ▸ k
theorem nm_unit_rows {w : World} : nsIn (KK w) mainGlobals "unit_rows" = some (some (.ref 19)) := rfl
theorem fn_unit_rows {w : World} : ∃ o fd, (KK w).lookup 19 = some o ∧ o.data = .func fd := ⟨_, _, rfl, rfl⟩
theorem nm_least_spot {w : World} : nsIn (KK w) mainGlobals "least_spot" = some (some (.ref 26)) := rfl
theorem fn_least_spot {w : World} : ∃ o fd, (KK w).lookup 26 = some o ∧ o.data = .func fd := ⟨_, _, rfl, rfl⟩
theorem nm_swap_columns {w : World} : nsIn (KK w) mainGlobals "swap_columns" = some (some (.ref 33)) := rfl
theorem fn_swap_columns {w : World} : ∃ o fd, (KK w).lookup 33 = some o ∧ o.data = .func fd := ⟨_, _, rfl, rfl⟩
theorem nm_bring {w : World} : nsIn (KK w) mainGlobals "bring" = some (some (.ref 40)) := rfl
theorem fn_bring {w : World} : ∃ o fd, (KK w).lookup 40 = some o ∧ o.data = .func fd := ⟨_, _, rfl, rfl⟩
theorem nm_clear_cross {w : World} : nsIn (KK w) mainGlobals "clear_cross" = some (some (.ref 45)) := rfl
theorem fn_clear_cross {w : World} : ∃ o fd, (KK w).lookup 45 = some o ∧ o.data = .func fd := ⟨_, _, rfl, rfl⟩
theorem nm_undivided_row {w : World} : nsIn (KK w) mainGlobals "undivided_row" = some (some (.ref 50)) := rfl
theorem fn_undivided_row {w : World} : ∃ o fd, (KK w).lookup 50 = some o ∧ o.data = .func fd := ⟨_, _, rfl, rfl⟩
theorem nm_smith_form {w : World} : nsIn (KK w) mainGlobals "smith_form" = some (some (.ref 55)) := rfl
theorem fn_smith_form {w : World} : ∃ o fd, (KK w).lookup 55 = some o ∧ o.data = .func fd := ⟨_, _, rfl, rfl⟩
theorem nm_diagonal {w : World} : nsIn (KK w) mainGlobals "diagonal" = some (some (.ref 60)) := rfl
theorem fn_diagonal {w : World} : ∃ o fd, (KK w).lookup 60 = some o ∧ o.data = .func fd := ⟨_, _, rfl, rfl⟩
theorem nm_pivot_row {w : World} : nsIn (KK w) mainGlobals "pivot_row" = some (some (.ref 87)) := rfl
theorem fn_pivot_row {w : World} : ∃ o fd, (KK w).lookup 87 = some o ∧ o.data = .func fd := ⟨_, _, rfl, rfl⟩
theorem nm_bareiss_step {w : World} : nsIn (KK w) mainGlobals "bareiss_step" = some (some (.ref 94)) := rfl
theorem fn_bareiss_step {w : World} : ∃ o fd, (KK w).lookup 94 = some o ∧ o.data = .func fd := ⟨_, _, rfl, rfl⟩
theorem nm_determinant {w : World} : nsIn (KK w) mainGlobals "determinant" = some (some (.ref 99)) := rfl
theorem fn_determinant {w : World} : ∃ o fd, (KK w).lookup 99 = some o ∧ o.data = .func fd := ⟨_, _, rfl, rfl⟩
theorem nm_leading_minors {w : World} : nsIn (KK w) mainGlobals "leading_minors" = some (some (.ref 104)) := rfl
theorem fn_leading_minors {w : World} : ∃ o fd, (KK w).lookup 104 = some o ∧ o.data = .func fd := ⟨_, _, rfl, rfl⟩
theorem nm_gcd {w : World} : nsIn (KK w) mainGlobals "gcd" = some (some (.ref 111)) := rfl
theorem fn_gcd {w : World} : ∃ o fd, (KK w).lookup 111 = some o ∧ o.data = .func fd := ⟨_, _, rfl, rfl⟩
theorem nm_law_draw {w : World} : nsIn (KK w) mainGlobals "_law_draw" = some (some (.ref 118)) := rfl
theorem fn_law_draw {w : World} : ∃ o fd, (KK w).lookup 118 = some o ∧ o.data = .func fd := ⟨_, _, rfl, rfl⟩
theorem nm_law_divides {w : World} : nsIn (KK w) mainGlobals "_law_divides" = some (some (.ref 125)) := rfl
theorem fn_law_divides {w : World} : ∃ o fd, (KK w).lookup 125 = some o ∧ o.data = .func fd := ⟨_, _, rfl, rfl⟩
theorem nm_law_greatest {w : World} : nsIn (KK w) mainGlobals "_law_greatest" = some (some (.ref 132)) := rfl
theorem fn_law_greatest {w : World} : ∃ o fd, (KK w).lookup 132 = some o ∧ o.data = .func fd := ⟨_, _, rfl, rfl⟩
theorem nm_law_lot {w : World} : nsIn (KK w) mainGlobals "_law_lot" = some (some (.ref 137)) := rfl
theorem fn_law_lot {w : World} : ∃ o fd, (KK w).lookup 137 = some o ∧ o.data = .func fd := ⟨_, _, rfl, rfl⟩
theorem nm_law_left {w : World} : nsIn (KK w) mainGlobals "_law_left" = some (some (.ref 142)) := rfl
theorem fn_law_left {w : World} : ∃ o fd, (KK w).lookup 142 = some o ∧ o.data = .func fd := ⟨_, _, rfl, rfl⟩
theorem nm_law_products {w : World} : nsIn (KK w) mainGlobals "_law_products" = some (some (.ref 149)) := rfl
theorem fn_law_products {w : World} : ∃ o fd, (KK w).lookup 149 = some o ∧ o.data = .func fd := ⟨_, _, rfl, rfl⟩
theorem nb_range {w : World} : nsIn (KK w) mainGlobals "range" = some none := rfl
theorem nb_len {w : World} : nsIn (KK w) mainGlobals "len" = some none := rfl
theorem nb_abs {w : World} : nsIn (KK w) mainGlobals "abs" = some none := rfl
theorem nb_min {w : World} : nsIn (KK w) mainGlobals "min" = some none := rfl
theorem nb_enumerate {w : World} : nsIn (KK w) mainGlobals "enumerate" = some none := rfl
theorem nb_sum {w : World} : nsIn (KK w) mainGlobals "sum" = some none := rfl
theorem nb_list {w : World} : nsIn (KK w) mainGlobals "list" = some none := rfl
theorem nb_int {w : World} : nsIn (KK w) mainGlobals "int" = some none := rfl
noncomputable abbrev Mw (w : World) : Model := model PySem.Challenge.rw_xm0075_01.row.prog w
section
variable {w : World} {M : Model} {A : Around} {s : Shared} {env : Env} {hb : Heap} {pos : Pos}
theorem biRange (a : Am (KK w) hb) (u : Up hb s) (N : En env) (hx : env.kindOf "range" = some .globalImplicit) : Ev M A (eval (.Name "range" pos) env) s (IsV (.type "range")) := Ev.boot a u N hx nb_range boot_range (by decide) rfl
theorem biLen (a : Am (KK w) hb) (u : Up hb s) (N : En env) (hx : env.kindOf "len" = some .globalImplicit) : Ev M A (eval (.Name "len" pos) env) s (IsV (.builtin "len")) := Ev.boot a u N hx nb_len boot_len (by decide) rfl
theorem biAbs (a : Am (KK w) hb) (u : Up hb s) (N : En env) (hx : env.kindOf "abs" = some .globalImplicit) : Ev M A (eval (.Name "abs" pos) env) s (IsV (.builtin "abs")) := Ev.boot a u N hx nb_abs boot_abs (by decide) rfl
theorem biEnumerate (a : Am (KK w) hb) (u : Up hb s) (N : En env) (hx : env.kindOf "enumerate" = some .globalImplicit) : Ev M A (eval (.Name "enumerate" pos) env) s (IsV (.type "enumerate")) := Ev.boot a u N hx nb_enumerate boot_enumerate (by decide) rfl
theorem biList (a : Am (KK w) hb) (u : Up hb s) (N : En env) (hx : env.kindOf "list" = some .globalImplicit) : Ev M A (eval (.Name "list" pos) env) s (IsV (.type "list")) := Ev.boot a u N hx nb_list PyProof.Rows.boot_list (by decide) rfl
theorem biMin (a : Am (KK w) hb) (u : Up hb s) (N : En env) (hx : env.kindOf "min" = some .globalImplicit) : Ev M A (eval (.Name "min" pos) env) s (IsV (.builtin "min")) := Ev.boot a u N hx nb_min boot_min (by decide) rfl
theorem biSum (a : Am (KK w) hb) (u : Up hb s) (N : En env) (hx : env.kindOf "sum" = some .globalImplicit) : Ev M A (eval (.Name "sum" pos) env) s (IsV (.builtin "sum")) := Ev.boot a u N hx nb_sum boot_sum (by decide) rfl
theorem biInt (a : Am (KK w) hb) (u : Up hb s) (N : En env) (hx : env.kindOf "int" = some .globalImplicit) : Ev M A (eval (.Name "int" pos) env) s (IsV (.type "int")) := Ev.boot a u N hx nb_int PyProof.Rows.boot_int (by decide) rfl
end
end Mine
end
-- Fw16
section
open PySem PySem.W PyProof.Rows PySem.Calls
set_option Elab.async false
set_option maxRecDepth 100000
set_option linter.unusedVariables false
namespace Mine
/-- a list of ints, as Lean's list -/
noncomputable def LN (h : Heap) (v : Value) (ns : List Int) : Prop := ∃ a vs, v = .ref a ∧ h.IsList a vs.toArray ∧ IntsAre vs ns
theorem isList_keep {h h' : Heap} {a : Addr} {vs : Array Value} (L : h.IsList a vs) (k : ∀ o, h.get? a = some o → h'.get? a = some o) : h'.IsList a vs := by
  obtain ⟨o, ho, r⟩ := L; exact ⟨o, k o ho, r⟩
theorem LN.ext {s s' : Shared} {v ns} (L : LN s.heap v ns) (x : Ext s s') : LN s'.heap v ns := by
  obtain ⟨a, vs, e, l, i⟩ := L; exact ⟨a, vs, e, isList_keep l fun o e => x.1 a o e fun h => h, i⟩
theorem intsOf {vs : List Value} : ∀ {ns : List Int}, vs.length = ns.length → (∀ (i : Nat) (v : Value), vs[i]? = some v → ∃ t, v = .int (ns.getD i 0) t) → IntsAre vs ns := by
  induction vs with
  | nil => intro ns h _; cases ns with
    | nil => exact .nil
    | cons => cases h
  | cons v r ih =>
    intro ns h k; cases ns with
    | nil => cases h
    | cons n m =>
      obtain ⟨t, rfl⟩ := k 0 v rfl
      exact .cons _ _ (ih (by simpa using h) fun i u e => by simpa using k (i + 1) u (by simpa using e))
theorem intsLen {vs : List Value} {ns : List Int} (h : IntsAre vs ns) : vs.length = ns.length := by
  induction h with
  | nil => rfl
  | cons _ _ _ ih => simp [ih]
theorem intsAt {vs : List Value} {ns : List Int} (h : IntsAre vs ns) : ∀ (i : Nat) (v : Value), vs[i]? = some v → ∃ t, v = .int (ns.getD i 0) t := by
  induction h with
  | nil => intro i v e; simp at e
  | cons _ _ _ ih => intro i v e; cases i with
    | zero => simp at e; exact ⟨_, e.symm⟩
    | succ i => simpa using ih i v (by simpa using e)
theorem LV.ints {h : Heap} {a n} {f : Nat → Int} (L : LI h a n f) : LN h (.ref a) ((List.range n).map f) := by
  obtain ⟨vs, l, z, q⟩ := L
  refine ⟨a, vs.toList, rfl, by simpa using l, intsOf (by simp [z]) fun i v e => ?_⟩
  have e' : vs[i]? = some v := by simpa using e
  have hi : i < n := z ▸ (Array.getElem?_eq_some_iff.mp e').1
  obtain ⟨t, rfl⟩ := q i v e'
  exact ⟨t, by simp [hi]⟩
theorem LN.li {h : Heap} {v ns} (L : LN h v ns) : ∃ a, v = .ref a ∧ LI h a ns.length (fun i => ns.getD i 0) := by
  obtain ⟨a, vs, e, l, i⟩ := L
  exact ⟨a, e, vs.toArray, l, by simp [intsLen i], fun j u k => intsAt i j u (by simpa using k)⟩
theorem LN.ofLI {h : Heap} {a n} {f : Nat → Int} {ns : List Int} (L : LI h a n f) (e : ns = (List.range n).map f) : LN h (.ref a) ns := e ▸ L.ints
section
variable {prog : Program} {w : World} {A : Around} {s : Shared} {env : Env}
theorem Tst.neL {l r : Expr} {pos : Pos} {ns ms : List Int} (hl : Ev (model prog w) A (eval l env) s (fun v s' => LN s'.heap v ns)) (hr : Ev (model prog w) A (eval r env) s (fun v s' => LN s'.heap v ms))
    (hu : A.units + 64 < cLine) (hm : behindInMarks .NotEq r = false := by with_unfolding_all rfl) : Tst (model prog w) A (.Compare l [.NotEq] [r] pos) env s (!decide (ns = ms)) :=
  .cmp hl hr (fun _ _ _ h x => h.ext x) (fun x y s' hx hy _ => by
    obtain ⟨a, vs, rfl, l, i⟩ := hx
    obtain ⟨b, us, rfl, l', i'⟩ := hy
    intro s₁ y Q q
    exact ne_intsK (isList_keep l fun o e => y.1 a o e fun h => h) i (isList_keep l' fun o e => y.1 b o e fun h => h) i' hu (q _ _ rfl .refl)) hm
theorem Ev.eqL {l r : Expr} {pos : Pos} {ns ms : List Int} (hl : Ev (model prog w) A (eval l env) s (fun v s' => LN s'.heap v ns)) (hr : Ev (model prog w) A (eval r env) s (fun v s' => LN s'.heap v ms))
    (hu : A.units + 64 < cLine) (hm : behindInMarks .Eq r = false := by with_unfolding_all rfl) : Ev (model prog w) A (eval (.Compare l [.Eq] [r] pos) env) s (IsB (decide (ns = ms))) :=
  .cmp hl hr (fun _ _ _ h x => h.ext x) (fun x y s' hx hy _ => by
    obtain ⟨a, vs, rfl, l, i⟩ := hx
    obtain ⟨b, us, rfl, l', i'⟩ := hy
    intro s₁ y Q q
    exact eq_intsK (isList_keep l fun o e => y.1 a o e fun h => h) i (isList_keep l' fun o e => y.1 b o e fun h => h) i' hu (q _ _ rfl .refl)) hm
theorem Ev.nilL {pos : Pos} : Ev (model prog w) A (eval (.List [] pos) env) s (fun v s' => ∃ a, v = .ref a ∧ s.heap.get? a = none ∧ s'.heap.IsList a #[]) :=
  (Ev.listD (P := fun vs _ => vs = []) EvL.nil (fun vs _ h => by subst h; simp) (fun _ _ _ h _ => h)).imp fun v s' ⟨l, vs, e, n, hl, h⟩ _ => by subst h; exact ⟨l, e, n, by simpa using hl⟩
theorem nilLN {h : Heap} {a : Addr} (l : h.IsList a #[]) : LN h (.ref a) [] := ⟨a, [], rfl, by simpa using l, .nil⟩
theorem paired_ints {α : Type} {f : α → Int} {R : α → Value → Prop} (hR : ∀ a v, R a v → ∃ t, v = .int (f a) t) : ∀ {l : List α} {ys : List Value}, Paired R l ys → IntsAre ys (l.map f)
  | _, _, .nil => .nil
  | _, _, .cons h r => by obtain ⟨t, rfl⟩ := hR _ _ h; exact .cons _ _ (paired_ints hR r)
end
end Mine
end
-- Fw17
section
open PySem PySem.W PyProof.Rows PySem.Calls
set_option Elab.async false
set_option maxRecDepth 100000
set_option linter.unusedVariables false
namespace Mine
section
variable {prog : Program} {w : World} {A : Around} {s : Shared} {env : Env} {ρ : Str → Option Value}
theorem Ev.listV {l : Addr} {n : Nat} {P : Nat → Value → Prop} (L : LV s.heap l n P) (hn : n ≤ 100) : Ev (model prog w) A (call (.type "list") [.ref l]) s (fun v s' => ∃ q, v = .ref q ∧ s.heap.get? q = none ∧ LV s'.heap q n P) :=
  fun s₁ x Q q => by
    obtain ⟨vs, ⟨o, ho, hc, k, hd⟩, z, hP⟩ := L.ext x
    refine call_list_seq l (.inl rfl) ho hc hd (fun h' c' kp hn' => ?_) (by rw [sizeLine_eq]; omega)
    exact q _ _ ⟨_, rfl, x.2 _ (size_none _), vs, ⟨_, hn', rfl, _, rfl⟩, z, hP⟩ (Ext.of_keep kp)
theorem Ev.listC {f e : Expr} {pos : Pos} {l : Addr} {n : Nat} {P : Nat → Value → Prop} (hf : Ev (model prog w) A (eval f env) s (IsV (.type "list"))) (h : Ev (model prog w) A (eval e env) s (IsV (.ref l)))
    (L : LV s.heap l n P) (hn : n ≤ 100)
    (he : eval (.Call f [e] [] pos) env = (do callWith pos (← eval f env) [] (backTo pos (starEach [e] env)) (backToKw pos (keywordEach [] env))) := by rfl)
    (he2 : starEach [e] env = (false, eval e env) :: starEach [] env := by rfl) (hp : (backTo pos (starEach [] env)).any (·.1) = false := by rfl) :
    Ev (model prog w) A (eval (.Call f [e] [] pos) env) s (fun v s' => ∃ q, v = .ref q ∧ s.heap.get? q = none ∧ LV s'.heap q n P) :=
  Ev.callT hf (.cons h .nil IsV.mono he2) (fun vs s' ⟨v, r, e1, ev, e2⟩ x => by
    cases ev; subst e1 e2
    exact (Ev.listV (L.ext x) hn).imp fun v s'' ⟨q, e, hn, hL⟩ _ => ⟨q, e, x.2 _ hn, hL⟩) he he2 hp
theorem Ev.min {a b : Int} {t u : Tok} (hh : A.handled = none) : Ev (model prog w) A (call (.builtin "min") [.int a t, .int b u]) s (IsI (if b < a then b else a)) :=
  fun s₁ x Q q => min_two_ints hh fun h' tk k => by
    refine q _ _ ?_ (Ext.of_keep k)
    split
    · exact ⟨_, rfl⟩
    · exact ⟨_, rfl⟩
theorem Ev.minC {f e₁ e₂ : Expr} {pos : Pos} {a b : Int} (hh : A.handled = none) (hf : Ev (model prog w) A (eval f env) s (IsV (.builtin "min"))) (h : EvL (model prog w) A [e₁, e₂] pos env s (fun vs _ => ∃ t u, vs = [.int a t, .int b u]))
    (he : eval (.Call f [e₁, e₂] [] pos) env = (do callWith pos (← eval f env) [] (backTo pos (starEach [e₁, e₂] env)) (backToKw pos (keywordEach [] env))) := by rfl)
    (he2 : starEach [e₁, e₂] env = (false, eval e₁ env) :: starEach [e₂] env := by rfl) (hp : (backTo pos (starEach [e₂] env)).any (·.1) = false := by rfl) :
    Ev (model prog w) A (eval (.Call f [e₁, e₂] [] pos) env) s (IsI (if b < a then b else a)) :=
  Ev.callB hf h (fun vs s' ⟨t, u, e⟩ x => by subst e; exact Ev.min hh) he he2 hp

/-- x, y, z = e₁, e₂, e₃ of locals: the machine stores the last first -/
theorem Assign3s_wp {x y z : Str} {px py pz tp vp pos : Pos} {k k2 : Nat} {e₁ e₂ e₃ : Expr} {P : List Value → Shared → Prop} {Q : Flow → Shared → Prop} (hh : A.handled = none) (N : En env) (F : Fm env s.heap ρ)
    (h : EvL (model prog w) A [e₁, e₂, e₃] vp env s P) (hl : ∀ vs s', P vs s' → vs.length = 3) (hP : ∀ vs s₁ s₂, P vs s₁ → Ext s₁ s₂ → P vs s₂)
    (hx : stOk env x = true) (hy : stOk env y = true) (hz : stOk env z = true)
    (hw : swappedStores [.Tuple [.Name x px, .Name y py, .Name z pz] k tp] (.Tuple [e₁, e₂, e₃] k2 vp) env = pure (some [x, y, z]))
    (q : ∀ v₁ v₂ v₃ s₁ s', P [v₁, v₂, v₃] s₁ → Ext s s₁ → Chg (Own env) s₁ s' → Fm env s'.heap (upd (upd (upd ρ z v₃) y v₂) x v₁) → Chg (Own env) s s' → Q .next s') :
    wpAny (model prog w) A (exec (.Assign [.Tuple [.Name x px, .Name y py, .Name z pz] k tp] (.Tuple [e₁, e₂, e₃] k2 vp) pos) env) Q (fun _ _ => False) s := by
  refine Assign_Tuple_swapped ((Ev.tuple h (fun vs s' p => by have := hl vs s' p; omega) hP).use fun v s₁ ⟨l, vs, e, hn, ht, p⟩ x1 => ?_) (by rfl) hw
  subst e
  refine unpack_wp hh ht (by rw [hl vs s₁ p]; rfl) fun s₂ x2 => ?_
  obtain ⟨v₁, v₂, v₃, rfl⟩ := len3 (hl vs s₁ p)
  refine wpAny_assignInOrder_more (wpAny_bindName (((F.ext x1).ext x2).store N hz fun s₃ F3 c3 => ?_))
  refine wpAny_assignInOrder_more (wpAny_bindName (F3.store N hy fun s₄ F4 c4 => ?_))
  refine wpAny_assignInOrder_more (wpAny_bindName (F4.store N hx fun s₅ F5 c5 => ?_))
  have c : Chg (Own env) s₂ s₅ := ((c3.mono fun _ => TgA.own).trans (c4.mono fun _ => TgA.own)).trans (c5.mono fun _ => TgA.own)
  exact wpAny_assignInOrder_none (q v₁ v₂ v₃ s₂ s₅ (hP _ _ _ p x2) (x1.trans x2) c F5 ((Ext.any (x1.trans x2)).trans c))
end
end Mine
end
-- Fw18
section
open PySem PySem.W PyProof.Rows PySem.Calls
set_option Elab.async false
set_option maxRecDepth 100000
set_option linter.unusedVariables false
namespace Mine
variable {w : World} {A : Around} {s : Shared} {hb : Heap}
theorem EvL.dep {M : Model} {env : Env} {e : Expr} {es : List Expr} {pos : Pos} {P : Value → Shared → Prop} {R : Value → List Value → Shared → Prop} (h : Ev M A (eval e env) s P)
    (t : ∀ v s', P v s' → Ext s s' → EvL M A es pos env s' (R v)) (hP : ∀ v s₁ s₂, P v s₁ → Ext s₁ s₂ → P v s₂)
    (he : starEach (e :: es) env = (false, eval e env) :: starEach es env := by rfl) : EvL M A (e :: es) pos env s (fun vs s' => ∃ v r, vs = v :: r ∧ P v s' ∧ R v r s') :=
  fun s₁ x Q q => args_cons (h s₁ x _ fun v s₂ p y => t v s₂ p (x.trans y) s₂ .refl _ fun vs s₃ r z => q _ _ ⟨v, vs, rfl, hP _ _ _ p z, r⟩ (y.trans z)) he
theorem EvL.consV {M : Model} {env : Env} {e : Expr} {es : List Expr} {pos : Pos} {v : Value} {r : List Value} (h : Ev M A (eval e env) s (IsV v)) (t : EvL M A es pos env s (fun vs _ => vs = r))
    (he : starEach (e :: es) env = (false, eval e env) :: starEach es env := by rfl) : EvL M A (e :: es) pos env s (fun vs _ => vs = v :: r) :=
  fun s₁ x Q q => EvL.cons h t IsV.mono he s₁ x Q fun vs s' ⟨v', r', e, ev, er⟩ y => q _ _ (by cases ev; rw [e, er]) y
/-- a new matrix -/
noncomputable def NewM (s₀ : Shared) (n : Nat) (M : Nat → Nat → Int) (v : Value) (s : Shared) : Prop := ∃ a r, v = .ref a ∧ Mx s.heap a n n r M ∧ ∀ b, Foot a n r b → s₀.heap.get? b = none
theorem NewM.mono {s₀ : Shared} {n M} : ∀ v (s₁ s₂ : Shared), NewM s₀ n M v s₁ → Ext s₁ s₂ → NewM s₀ n M v s₂ := fun v s₁ s₂ ⟨a, r, e, m, f⟩ x => ⟨a, r, e, m.ext x, f⟩
end Mine
end
-- Fw19
section
open PySem PySem.W PyProof.Rows PySem.Calls
set_option Elab.async false
set_option maxRecDepth 100000
set_option linter.unusedVariables false
namespace Mine
section
variable {prog : Program} {w : World} {A : Around} {s : Shared} {env : Env} {ρ : Str → Option Value}
theorem Ev.sliceTo {value e : Expr} {p pos : Pos} {l : Addr} {n k : Nat} {P : Nat → Value → Prop} (ho : Ev (model prog w) A (eval value env) s (IsV (.ref l))) (L : LV s.heap l n P)
    (he : Ev (model prog w) A (eval e env) s (IsI (k : Int))) (hk : k ≤ n) (hn : n ≤ 100) (ht : ∀ o r, letTemporaryGo value o r = pure () := by intro _ _; rfl) :
    Ev (model prog w) A (eval (.Subscript value (.Slice none (some e) none p) pos) env) s (fun v s' => ∃ D, v = .ref D ∧ s.heap.get? D = none ∧ LV s'.heap D k P) :=
  fun s₁ x Q q => wpAny_Subscript_list_slice (ho s₁ x _ fun o s₂ eo y => wpAny_evalPart_none (wpAny_evalPart_some (he s₂ (x.trans y) _ fun v s₃ ev z => by
    obtain ⟨t, rfl⟩ := ev; cases eo
    obtain ⟨vs, hl, hz, hP⟩ := L.ext (x.trans (y.trans z))
    refine ⟨l, vs, none, some (k : Int), rfl, hl, by rw [sizeLine_eq]; omega, .none, .int _ _, ?_⟩
    have x2 : Ext s₃ { s₃ with heap := (s₃.heap.push { cls := .type "slice", data := .fields #[.none, .int k t, .none] }).push { cls := .type "list", data := .seq (slicePick vs none (some (k : Int)) none) } } := Ext.of_keep fun b o e => Heap.get?_push_of_some _ (Heap.get?_push_of_some _ e)
    have hsz : (s₃.heap.push { cls := .type "slice", data := .fields #[.none, .int k t, .none] }).objs.size = s₃.heap.objs.size + 1 := Heap.size_push ..
    refine q _ _ ⟨_, rfl, (x.trans (y.trans z)).2 _ ?_, slicePick vs none (some (k : Int)) none, ⟨{ cls := .type "list", data := .seq (slicePick vs none (some (k : Int)) none) }, ?_, rfl, 0, rfl⟩, ?_, ?_⟩ ((y.trans z).trans x2)
    · cases h : s₃.heap.get? (s₃.heap.objs.size + 1) with
      | none => rfl
      | some o => exact absurd (Heap.lt_size h) (Nat.not_lt_of_le (Nat.le_succ _))
    · have := Heap.get?_push_size (s₃.heap.push { cls := .type "slice", data := .fields #[.none, .int k t, .none] }) (o := { cls := .type "list", data := .seq (slicePick vs none (some (k : Int)) none) }) rfl
      rwa [hsz] at this
    · rw [slicePick_upto vs k (by omega)]; simp; omega
    · intro i u hu
      rw [slicePick_upto vs k (by omega)] at hu
      simp only [List.getElem?_toArray, List.getElem?_take] at hu
      split at hu
      · exact hP i u (by simpa using hu)
      · cases hu))) ht
theorem Ev.sliceFrom {value e : Expr} {p pos : Pos} {l : Addr} {n k : Nat} {P : Nat → Value → Prop} (ho : Ev (model prog w) A (eval value env) s (IsV (.ref l))) (L : LV s.heap l n P)
    (he : Ev (model prog w) A (eval e env) s (IsI (k : Int))) (hk : k ≤ n) (hn : n ≤ 100) (ht : ∀ o r, letTemporaryGo value o r = pure () := by intro _ _; rfl) :
    Ev (model prog w) A (eval (.Subscript value (.Slice (some e) none none p) pos) env) s (fun v s' => ∃ D, v = .ref D ∧ s.heap.get? D = none ∧ LV s'.heap D (n - k) (fun i => P (k + i))) :=
  fun s₁ x Q q => wpAny_Subscript_list_slice (ho s₁ x _ fun o s₂ eo y => wpAny_evalPart_some (he s₂ (x.trans y) _ fun v s₃ ev z => wpAny_evalPart_none (by
    obtain ⟨t, rfl⟩ := ev; cases eo
    obtain ⟨vs, hl, hz, hP⟩ := L.ext (x.trans (y.trans z))
    refine ⟨l, vs, some (k : Int), none, rfl, hl, by rw [sizeLine_eq]; omega, .int _ _, .none, ?_⟩
    have x2 : Ext s₃ { s₃ with heap := (s₃.heap.push { cls := .type "slice", data := .fields #[.int k t, .none, .none] }).push { cls := .type "list", data := .seq (slicePick vs (some (k : Int)) none none) } } := Ext.of_keep fun b o e => Heap.get?_push_of_some _ (Heap.get?_push_of_some _ e)
    have hsz : (s₃.heap.push { cls := .type "slice", data := .fields #[.int k t, .none, .none] }).objs.size = s₃.heap.objs.size + 1 := Heap.size_push ..
    refine q _ _ ⟨_, rfl, (x.trans (y.trans z)).2 _ ?_, slicePick vs (some (k : Int)) none none, ⟨{ cls := .type "list", data := .seq (slicePick vs (some (k : Int)) none none) }, ?_, rfl, 0, rfl⟩, ?_, ?_⟩ ((y.trans z).trans x2)
    · cases h : s₃.heap.get? (s₃.heap.objs.size + 1) with
      | none => rfl
      | some o => exact absurd (Heap.lt_size h) (Nat.not_lt_of_le (Nat.le_succ _))
    · have := Heap.get?_push_size (s₃.heap.push { cls := .type "slice", data := .fields #[.int k t, .none, .none] }) (o := { cls := .type "list", data := .seq (slicePick vs (some (k : Int)) none none) }) rfl
      rwa [hsz] at this
    · rw [slicePick_from vs k (by omega)]; simp; omega
    · intro i u hu
      rw [slicePick_from vs k (by omega)] at hu
      simp only [List.getElem?_toArray, List.getElem?_drop] at hu
      exact hP (k + i) u (by simpa using hu)))) ht
end
end Mine
end
-- Fw20
section
open PySem PySem.W PyProof.Rows PySem.Calls
set_option Elab.async false
set_option maxRecDepth 100000
set_option linter.unusedVariables false
namespace Mine
section
variable {prog : Program} {w : World} {A : Around} {s : Shared} {env : Env} {ρ : Str → Option Value}
theorem compTurn_two0 (elt t1 e1 t2 e2 : Expr) (scope : Scope) (pos : Pos) (it acc : Value) (env : Env) :
    compTurn (.ListComp elt [⟨t1, e1, [], 0⟩, ⟨t2, e2, [], 0⟩] scope pos) 0 it acc env = (standAt e1.pos >>= fun _ => pyNext it >>= fun r => match r with
      | none => pure (.done .next)
      | some v => letOwnedTupleGo t1 it v >>= fun _ => assign t1 env v >>= fun _ =>
        (eval e2 env >>= fun x => standAt e2.pos >>= fun _ => foldedSetIterable e2 env x >>= fun x => holding [x] (pyIter x) >>= fun i2 =>
          runOwn (.compStart (.ListComp elt [⟨t1, e1, [], 0⟩, ⟨t2, e2, [], 0⟩] scope pos) 1 i2 acc env) env >>= fun _ =>
          again (.compLoop (.ListComp elt [⟨t1, e1, [], 0⟩, ⟨t2, e2, [], 0⟩] scope pos) 0 it acc env))) := by rfl
theorem compTurn_two1 (elt t1 e1 t2 e2 : Expr) (scope : Scope) (pos : Pos) (it acc : Value) (env : Env) :
    compTurn (.ListComp elt [⟨t1, e1, [], 0⟩, ⟨t2, e2, [], 0⟩] scope pos) 1 it acc env = (standAt e2.pos >>= fun _ => pyNext it >>= fun r => match r with
      | none => pure (.done .next)
      | some v => letOwnedTupleGo t2 it v >>= fun _ => assign t2 env v >>= fun _ =>
        (eval elt env >>= fun x => call (.builtin "list.append") [acc, x] >>= fun _ => pure ()) >>= fun _ =>
          again (.compLoop (.ListComp elt [⟨t1, e1, [], 0⟩, ⟨t2, e2, [], 0⟩] scope pos) 1 it acc env)) := by rfl
theorem codeAny_compStart_two1 {R : Result → Shared → Prop} {elt t1 e1 t2 e2 scope pos it acc env}
    (h0 : codeAny (model prog w) A (.compLoop (.ListComp elt [⟨t1, e1, [], 0⟩, ⟨t2, e2, [], 0⟩] scope pos) 1 it acc env) R s)
    (h : wpAny (model prog w) A (pyIter it) (fun it' s' => codeAny (model prog w) A (.compLoop (.ListComp elt [⟨t1, e1, [], 0⟩, ⟨t2, e2, [], 0⟩] scope pos) 1 it' acc env) R s')
      (notedBy (model prog w) A env fun x s' => R (.error x) s') s) :
    codeAny (model prog w) A (.compStart (.ListComp elt [⟨t1, e1, [], 0⟩, ⟨t2, e2, [], 0⟩] scope pos) 1 it acc env) R s := by
  refine codeAny_of_tree ?_
  show wpAny _ _ ((compStart (.ListComp elt [⟨t1, e1, [], 0⟩, ⟨t2, e2, [], 0⟩] scope pos) 1 it acc env).onRaise (fun x => do noteFrame x env; standAt theWindowsPlace)) _ _ s
  refine wpAny_notedAt ?_
  unfold compStart
  show wpAny _ _ (ask >>= _) _ _ s
  refine wpAny_bind (wpAny_askSetting (wpAny_ite ?_))
  split
  · first
      | exact wpAny_bind (wpAny_pure (wpAny_pure (And.intro rfl h0)))
      | exact wpAny_pure (And.intro rfl h0)
  · first
      | exact wpAny_bind (wpAny_rule (wpAny_bind (wpAny_standAt (wpAny_bind (wpAny_mono h (fun it' s' h' => wpAny_pure (And.intro rfl h')) fun _ _ x => x)))))
      | (refine wpAny_bind (wpAny_rule ?_); show wpAny _ _ (standAt e2.pos >>= _) _ _ s; exact wpAny_bind (wpAny_standAt (wpAny_bind (wpAny_mono h (fun it' s' h' => wpAny_pure (And.intro rfl h')) fun _ _ x => x))))

theorem codeAny_two1_self {R : Result → Shared → Prop} {elt t1 e1 t2 e2 scope pos it acc env}
    (hself : ∀ (Q : Value → Shared → Prop) (E : Value → Shared → Prop), Q it s → wpAny (model prog w) A (pyIter it) Q E s)
    (h0 : codeAny (model prog w) A (.compLoop (.ListComp elt [⟨t1, e1, [], 0⟩, ⟨t2, e2, [], 0⟩] scope pos) 1 it acc env) R s) :
    codeAny (model prog w) A (.compStart (.ListComp elt [⟨t1, e1, [], 0⟩, ⟨t2, e2, [], 0⟩] scope pos) 1 it acc env) R s := codeAny_compStart_two1 h0 (hself _ _ h0)

theorem Ev.comp2 {elt e1 e2 : Expr} {x y : Str} {px py : Pos} {scope : Scope} {pos : Pos} {B1 B2 : Addr → Prop} {n1 n2 : Nat} {P1 P2 : Nat → Value → Prop} (R : Nat → Nat → Value → Prop)
    (hh : A.handled = none) (N : En env) (F : Fm env s.heap ρ) (ok : compOk scope env = true) (hit : ItEv prog w A env (.Name x px) e1 s B1 n1 (BdN x P1))
    (tg1 : ∀ C, tgOk (chEnv scope C env) (.Name x px) = true) (tg2 : ∀ C, tgOk (chEnv scope C env) (.Name y py) = true) (tn1 : tgNew scope (.Name x px) = true) (tn2 : tgNew scope (.Name y py) = true)
    (hxy : x ≠ y) (hn : n1 * n2 ≤ 2 ^ 20) (h2 : 0 < n2)
    (hit2 : ∀ C i ρ₂ s₁, i < n1 → Ext s s₁ → (∃ v, P1 i v ∧ ρ₂ x = some v) → (∀ z, z ≠ x → z ≠ y → ρ₂ z = chRho scope ρ z) → Fm (chEnv scope C env) s₁.heap ρ₂ → En (chEnv scope C env) →
      ItEv prog w A (chEnv scope C env) (.Name y py) e2 s₁ B2 n2 (BdN y P2))
    (hB2 : ∀ b, B2 b → s.heap.get? b ≠ none)
    (hel : ∀ C i j ρ₂ s₁ v₁ v₂, i < n1 → j < n2 → Ext s s₁ → P1 i v₁ → P2 j v₂ → ρ₂ x = some v₁ → ρ₂ y = some v₂ → (∀ z, z ≠ x → z ≠ y → ρ₂ z = chRho scope ρ z) → Fm (chEnv scope C env) s₁.heap ρ₂ → En (chEnv scope C env) →
      Ev (model prog w) A (eval elt (chEnv scope C env)) s₁ (fun v _ => R i j v))
    (hs : ∀ x, foldedSetIterable e1 env x = pure x := by intro _; rfl) (hs2 : ∀ C x, foldedSetIterable e2 (chEnv scope C env) x = pure x := by intro _ _; rfl) :
    Ev (model prog w) A (eval (.ListComp elt [⟨.Name x px, e1, [], 0⟩, ⟨.Name y py, e2, [], 0⟩] scope pos) env) s
      (fun v s' => ∃ D, ∃ ys : List Value, v = .ref D ∧ s.heap.get? D = none ∧ PlainL s'.heap D ys.toArray ∧ ys.length = n1 * n2 ∧ ∀ k v, ys[k]? = some v → R (k / n2) (k % n2) v) := by
  intro s₀ x0 Q q
  have ok' := ok
  simp only [compOk, Bool.and_eq_true, decide_eq_true_eq, beq_iff_eq] at ok'
  obtain ⟨⟨hfree, hnd⟩, hk⟩ := ok'
  rw [eval_ListComp]
  refine wpAny_comprehension_free (use := none) rfl hs (closureFor_eq hfree) hk (fun y hy he => lookup_of_nodup hnd (he ▸ hy)) ?_
  refine hit s₀ x0 _ fun I fp own St s₁ W hSt x1 hnew hfp => ?_
  refine wpAny_newObj_type (T := "list") ?_ (by show ([] : List Value).toArray.size ≤ sizeLine; exact Nat.zero_le _)
  generalize hs2' : ({ heap := s₁.heap.push { cls := .type "list", dict := none, data := .seq ([] : List Value).toArray }, gens := s₁.gens, drawn := s₁.drawn, toks := s₁.toks, os := s₁.os } : Shared) = s₂
  have x2 : Ext s₁ s₂ := hs2' ▸ Ext.push
  have hD : s₁.heap.get? s₁.heap.objs.size = none := size_none _
  have hDl : PlainL s₂.heap s₁.heap.objs.size ([] : List Value).toArray := by rw [← hs2']; exact ⟨_, _, Heap.get?_push_size _ rfl, rfl, rfl, rfl⟩
  have F2 : Fm env s₂.heap ρ := F.ext (x0.trans (x1.trans x2))
  generalize s₁.heap.objs.size = D at hD hDl
  refine newEnv_comp F2 ok fun C s₃ hC F3 x3 hown => ?_
  have tgn1 : ∀ b, TgE (chEnv scope C env) (.Name x px) b → s₂.heap.get? b = none := fun b t => t.new tn1 hC hown
  have tgn2 : ∀ b, TgE (chEnv scope C env) (.Name y py) b → s₂.heap.get? b = none := fun b t => t.new tn2 hC hown
  generalize hE : chEnv scope C env = env' at F3 tgn1 tgn2
  have hE' : ({ scope := relabel scope env, locals := C, globals := env.globals, cells := cellsFrom (C + 1) scope.names (clOf env scope.names []), qual := env.qual, func := none, code := env.code, frame := env.frame, builtins := env.builtins } : Env) = env' := hE
  show codeAny _ A (.compStart (.ListComp elt [⟨.Name x px, e1, [], 0⟩, ⟨.Name y py, e2, [], 0⟩] scope pos) 0 (.ref I) (.ref D) { scope := relabel scope env, locals := C, globals := env.globals, cells := cellsFrom (C + 1) scope.names (clOf env scope.names []), qual := env.qual, func := none, code := env.code, frame := env.frame, builtins := env.builtins }) _ s₃
  rw [hE']
  have hloc : env'.locals = C := by rw [← hE]; rfl
  have N' : En env' := hE ▸ N.child hk
  have tg1' : tgOk env' (.Name x px) = true := hE ▸ tg1 C
  have tg2' : tgOk env' (.Name y py) = true := hE ▸ tg2 C
  have hSt3 : St 0 s₃ := W.frame 0 _ _ hSt fun b o _ e => (x2.trans x3).1 b o e fun h => h
  have hDne : ∀ b, fp b → b ≠ D := fun b hb e => W.ex hSt hb (e ▸ hD)
  have plD : ∀ {h : Heap} {a vs}, PlainL h a vs → ∃ o xs k, h.get? a = some o ∧ o.data = .seq xs k := fun {h a vs} ⟨o, n, ho, _, _, hd⟩ => ⟨o, vs, n, ho, hd⟩
  have hDC : D ≠ C := fun e => by obtain ⟨o, _, ho, _⟩ := hDl; rw [e, hC] at ho; cases ho
  have hDown : ¬ Own env' D := fun ho => by
    obtain ⟨o, xs, k, ho', hd⟩ := plD hDl
    exact F3.notSeq ho (x3.all _ _ ho') hd
  have hD0 : s₀.heap.get? D = none := x1.2 D hD
  have hC0 : s₀.heap.get? C = none := x1.2 C (x2.2 C hC)
  have hx03 : Ext s₀ s₃ := x1.trans (x2.trans x3)
  have hlt1 : ∀ b, TgE env' (.Name x px) b → s₀.heap.get? b = none := fun b t => x1.2 b (x2.2 b (tgn1 b t))
  have hlt2 : ∀ b, TgE env' (.Name y py) b → s₀.heap.get? b = none := fun b t => x1.2 b (x2.2 b (tgn2 b t))
  let Agr : (Str → Option Value) → Prop := fun ρ' => ∀ z, z ≠ x → z ≠ y → ρ' z = chRho scope ρ z
  let Good : Nat → Nat → List Value → Prop := fun i j ys => ys.length = i * n2 + j ∧ ∀ k v, ys[k]? = some v → R (k / n2) (k % n2) v
  let ST : Nat → Shared → Prop := fun k s' => ∃ i ρ' ys, i ≤ n1 ∧ k = n1 - i ∧ St i s' ∧ Fm env' s'.heap ρ' ∧ Agr ρ' ∧ PlainL s'.heap D ys.toArray ∧ Good i 0 ys ∧ Ext s₀ s'
  have hend : ∀ s' ρ' ys, Fm env' s'.heap ρ' → PlainL s'.heap D ys.toArray → Good n1 0 ys → Ext s₀ s' →
      compPost (model prog w) A (fun _ _ => False) none Q (.ref D) C (.ok .next) s' := fun s' ρ' ys F' hl hA hx => by
    obtain ⟨m, hm, _⟩ := F'.ns
    rw [hloc] at hm
    refine ⟨m, hm, fun h' hs' => ?_⟩
    exact q _ _ ⟨D, ys, rfl, x0.2 D hD0, hl.extBut hs'.extBut hDC, hA.1, hA.2⟩ (hx.extNew hs'.extBut hC0)
  have loop : codeAny (model prog w) A (.compLoop (.ListComp elt [⟨.Name x px, e1, [], 0⟩, ⟨.Name y py, e2, [], 0⟩] scope pos) 0 (.ref I) (.ref D) env') (compPost (model prog w) A (fun _ _ => False) none Q (.ref D) C) s₃ := by
    refine codeAny_loop rfl ST (fun k s' hI => ?_) n1 ⟨0, _, [], Nat.zero_le _, rfl, hSt3, F3, fun z _ _ => rfl, (by obtain ⟨o, n, ho, r⟩ := hDl; exact ⟨o, n, x3.all _ _ ho, r⟩), ⟨by simp, fun k v h => by simp at h⟩, hx03⟩
    obtain ⟨i, ρ', ys, hi, rfl, hSti, Fi, hG, hl, hA, hx⟩ := hI
    show wpAny _ A ((compTurn (.ListComp elt [⟨.Name x px, e1, [], 0⟩, ⟨.Name y py, e2, [], 0⟩] scope pos) 0 (.ref I) (.ref D) env').onRaise (fun x => do noteFrame x env'; theTreesLotGoes x)) _ _ s'
    refine wpAny_noted ?_
    rw [compTurn_two0]
    refine wpAny_bind (wpAny_standAt (wpAny_bind ?_))
    by_cases hin : i < n1
    · have T := W.turn env' i s' ρ' (fun s₄ => ∃ v, P1 i v ∧ Fm env' s₄.heap (upd ρ' x v) ∧ St (i + 1) s₄ ∧ PlainL s₄.heap D ys.toArray ∧ Ext s₀ s₄) N' tg1' hin hSti Fi (fun b hb => W.notOwn hSti Fi hb)
        fun s₄ ρ₂ hB F4 hSt4 c4 => by
          have hnD : ¬ (own D ∨ TgE env' (.Name x px) D) := fun z => z.elim (fun z => hDne D (W.ownI D z) rfl) fun z => hDown z.own
          obtain ⟨v, hv, rfl⟩ := hB
          refine ⟨v, hv, F4, hSt4, ?_, hx.transE c4 fun b hb z => z.elim (fun z => absurd (hnew b z) hb) fun z => absurd (hlt1 b z) hb⟩
          obtain ⟨o, n, ho, r⟩ := hl; exact ⟨o, n, c4.1 _ o ho hnD, r⟩
      refine wpAny_mono T (fun r s'' h => ?_) (fun _ _ h => h.elim)
      cases r with
      | none => exact h.elim
      | some v =>
        refine wpAny_bind (wpAny_mono h (fun _ s'' h => wpAny_bind (wpAny_mono h (fun _ s₄ h => ?_) fun _ _ h => h.elim)) fun _ _ h => h.elim)
        obtain ⟨v1, hv1, F4, hSt4, hl4, hx4⟩ := h
        have hG4 : Agr (upd ρ' x v1) := fun z h1 h2 => (upd_ne h1).trans (hG z h1 h2)
        have IT := hit2 C i (upd ρ' x v1) s₄ hin (x0.trans hx4) ⟨v1, hv1, upd_self⟩ hG4 (hE ▸ F4) (hE ▸ N')
        rw [hE] at IT
        have hD4 : s₄.heap.get? D ≠ none := by obtain ⟨o, _, ho, _⟩ := hl4; exact some_ne ho
        refine wpAny_bind (wpAny_mono (IT s₄ .refl (fun i2 s₅ => ∃ I2 fp2 own2 St2, i2 = .ref I2 ∧ Iter prog w A (.Name y py) I2 fp2 own2 n2 (BdN y P2) St2 ∧ St2 0 s₅ ∧ Ext s₄ s₅ ∧ (∀ b, own2 b → s₄.heap.get? b = none) ∧ (∀ b, fp2 b → own2 b ∨ B2 b))
          fun I2 fp2 own2 St2 s₅ W2 h0 x5 hn2 hf2 => ⟨I2, fp2, own2, St2, rfl, W2, h0, x5, hn2, hf2⟩) (fun xv s₅ h => ?_) fun _ _ h => h.elim)
        refine wpAny_bind (wpAny_standAt (wpAny_bind ?_))
        rw [show foldedSetIterable e2 env' xv = pure xv from hE ▸ hs2 C xv]
        refine wpAny_pure (wpAny_bind (wpAny_holding (wpAny_mono h (fun i2 s₆ h => ?_) fun _ _ h => h.elim)))
        obtain ⟨I2, fp2, own2, St2, rfl, W2, hS2, x46, hn2, hf2⟩ := h
        have hD2 : ∀ b, fp2 b → b ≠ D := fun b hb e => (hf2 b hb).elim (fun h => hD4 (e ▸ hn2 b h)) fun h => hB2 b h (e ▸ x0.2 D hD0)
        have hl6 : PlainL s₆.heap D ys.toArray := hl4.keeps x46.all
        have hSt6 : St (i + 1) s₆ := W.frame _ _ _ hSt4 fun b o _ e => x46.all b o e
        have fp4 : ∀ b, fp b → s₄.heap.get? b ≠ none := fun b hb => W.ex hSt4 hb
        refine wpAny_bind (wpAny_runOwn ?_ (by intro x; cases x))
        have post : ∀ s₇ ρ₇ ys', St (i + 1) s₇ → Fm env' s₇.heap ρ₇ → Agr ρ₇ → PlainL s₇.heap D ys'.toArray → Good i n2 ys' → Ext s₀ s₇ →
            wpAny (model prog w) A (again (.compLoop (.ListComp elt [⟨.Name x px, e1, [], 0⟩, ⟨.Name y py, e2, [], 0⟩] scope pos) 0 (.ref I) (.ref D) env')) (fun fin s' => match fin with
              | .done f => compPost (model prog w) A (fun _ _ => False) none Q (.ref D) C (.ok f) s'
              | .again c => c = .compLoop (.ListComp elt [⟨.Name x px, e1, [], 0⟩, ⟨.Name y py, e2, [], 0⟩] scope pos) 0 (.ref I) (.ref D) env' ∧ ∃ m, m < n1 - i ∧ ST m s') (fun _ _ => False) s₇ := by
          intro s₇ ρ₇ ys' hSt7 F7 hG7 hl7 hg7 hx7
          exact wpAny_pure ⟨rfl, n1 - (i + 1), by (with_reducible exact Nat.sub_lt_sub_left (by assumption) (Nat.lt_succ_self _)), i + 1, ρ₇, ys', hin, rfl, hSt7, F7, hG7, hl7, ⟨by rw [hg7.1, Nat.succ_mul]; rfl, hg7.2⟩, hx7⟩
        show codeAny (model prog w) A _ _ _
        let ST2 : Nat → Shared → Prop := fun k s' => ∃ j ρ₅ ys', j ≤ n2 ∧ k = n2 - j ∧ St2 j s' ∧ St (i + 1) s' ∧ Fm env' s'.heap ρ₅ ∧ ρ₅ x = some v1 ∧ Agr ρ₅ ∧ PlainL s'.heap D ys'.toArray ∧ Good i j ys' ∧ Ext s₀ s' ∧ Ext s s'
        have own2_0 : ∀ b, own2 b → s₀.heap.get? b = none := fun b h => hx4.2 b (hn2 b h)
        have own2_fp : ∀ b, own2 b → ¬ fp b := fun b h hb => fp4 b hb (hn2 b h)
        refine codeAny_two1_self (fun Q E => W2.self 0 _ Q E hS2) ?_
        · refine codeAny_loop rfl ST2 (fun k s' hI => ?_) n2 ⟨0, _, ys, Nat.zero_le _, rfl, hS2, hSt6, F4.ext x46, upd_self, hG4, hl6, hA, hx4.trans x46, x0.trans (hx4.trans x46)⟩
          obtain ⟨j, ρ₅, ys', hj, rfl, hS2j, hStj, F5, hv5, hG5, hl5, hA5, hx5, hxs5⟩ := hI
          show wpAny _ A ((compTurn (.ListComp elt [⟨.Name x px, e1, [], 0⟩, ⟨.Name y py, e2, [], 0⟩] scope pos) 1 (.ref I2) (.ref D) env').onRaise (fun x => do noteFrame x env'; theTreesLotGoes x)) _ _ s'
          refine wpAny_noted ?_
          rw [compTurn_two1]
          refine wpAny_bind (wpAny_standAt (wpAny_bind ?_))
          by_cases hjn : j < n2
          · have T := W2.turn env' j s' ρ₅ (fun s₇ => ∃ v, P2 j v ∧ Fm env' s₇.heap (upd ρ₅ y v) ∧ St2 (j + 1) s₇ ∧ St (i + 1) s₇ ∧ PlainL s₇.heap D ys'.toArray ∧ Ext s₀ s₇) N' tg2' hjn hS2j F5 (fun b hb => W2.notOwn hS2j F5 hb)
              fun s₇ ρ₂ hB F7 hSt7 c7 => by
                have hnD : ¬ (own2 D ∨ TgE env' (.Name y py) D) := fun z => z.elim (fun z => hD2 D (W2.ownI D z) rfl) fun z => hDown z.own
                obtain ⟨v, hv, rfl⟩ := hB
                refine ⟨v, hv, F7, hSt7, W.frame _ _ _ hStj fun b o hb e => c7.1 b o e fun z => z.elim (fun z => own2_fp b z hb) fun z => W.notOwn hStj F5 hb z.own, ?_, hx5.transE c7 fun b hb z => z.elim (fun z => absurd (own2_0 b z) hb) fun z => absurd (hlt2 b z) hb⟩
                obtain ⟨o, n, ho, r⟩ := hl5; exact ⟨o, n, c7.1 _ o ho hnD, r⟩
            refine wpAny_mono T (fun r s'' h => ?_) (fun _ _ h => h.elim)
            cases r with
            | none => exact h.elim
            | some v =>
              refine wpAny_bind (wpAny_mono h (fun _ s'' h => wpAny_bind (wpAny_mono h (fun _ s₇ h => ?_) fun _ _ h => h.elim)) fun _ _ h => h.elim)
              obtain ⟨v2, hv2, F7, hS27, hSt7, hl7, hx7⟩ := h
              have EL := hel C i j (upd ρ₅ y v2) s₇ v1 v2 hin hjn (x0.trans hx7) hv1 hv2 ((upd_ne hxy).trans hv5) upd_self (fun z h1 h2 => (upd_ne h2).trans (hG5 z h1 h2)) (hE ▸ F7) (hE ▸ N')
              rw [hE] at EL
              refine wpAny_bind (wpAny_bind (EL.useE fun u s₈ hu x78 => wpAny_bind ?_))
              have hl8 : PlainL s₈.heap D ys'.toArray := hl7.keeps x78.all
              refine list_append_plainL hl8 (fun h' hl' hs' => wpAny_pure (wpAny_pure ⟨rfl, n2 - (j + 1), by (with_reducible exact Nat.sub_lt_sub_left (by assumption) (Nat.lt_succ_self _)), j + 1, upd ρ₅ y v2, ys' ++ [u], hjn, rfl, ?_, ?_, ?_, (upd_ne hxy).trans hv5, fun z h1 h2 => (upd_ne h2).trans (hG5 z h1 h2), by simpa using hl', ?_, ?_, ?_⟩)) ?_
              · exact W2.frame (j + 1) s₈ _ (W2.frame _ _ _ hS27 (fun b o _ e => x78.all b o e)) fun b o hb e => hs'.extBut b o (hD2 b hb) e
              · exact W.frame (i + 1) s₈ _ (W.frame _ _ _ hSt7 (fun b o _ e => x78.all b o e)) fun b o hb e => hs'.extBut b o (hDne b hb) e
              · exact Fm.keep (h := s₈.heap) (F7.ext x78) fun b o hb e => hs'.extBut b o (fun q => hDown (q ▸ hb)) e
              · refine ⟨by simp [hA5.1]; (with_reducible exact Nat.add_assoc _ _ _), fun k v hk => ?_⟩
                by_cases hkl : k < ys'.length
                · rw [List.getElem?_append_left hkl] at hk; exact hA5.2 k v hk
                · rw [List.getElem?_append_right (by (with_reducible exact Nat.le_of_not_lt (by assumption)))] at hk
                  have : k = ys'.length := by
                    by_cases z : k - ys'.length = 0
                    · omega
                    · rw [List.getElem?_eq_none (by simp; omega)] at hk; cases hk
                  subst this
                  simp at hk
                  subst hk
                  rw [hA5.1, Nat.mul_comm, Nat.mul_add_div h2, Nat.mul_add_mod, Nat.div_eq_of_lt hjn, Nat.mod_eq_of_lt hjn]
                  exact hu
              · exact (hx7.trans x78).extNew hs'.extBut hD0
              · exact (x0.trans (hx7.trans x78)).extNew hs'.extBut (x0.2 D hD0)
              · rw [sizeLine_eq]
                have h1 : ys'.length ≤ n1 * n2 := by
                  rw [hA5.1]
                  calc i * n2 + j ≤ i * n2 + n2 := by (with_reducible exact Nat.add_le_add_left (by assumption) _)
                    _ = (i + 1) * n2 := by rw [Nat.succ_mul]
                    _ ≤ n1 * n2 := Nat.mul_le_mul_right _ hin
                simp; omega
          · obtain rfl : j = n2 := by omega
            have T := W2.done s' (fun s'' => (∀ b o, s'.heap.get? b = some o → ¬ own2 b → s''.heap.get? b = some o) ∧ Ext s₀ s'') hh hS2j fun s'' hk hx' => ⟨hk, hx' _ _ hx5 own2_0⟩
            refine wpAny_mono T (fun r s'' h => ?_) (fun _ _ h => h.elim)
            obtain ⟨rfl, hk', hx''⟩ := h
            refine wpAny_pure (post s'' ρ₅ ys' (W.frame _ _ _ hStj fun b o hb e => hk' b o e fun z => own2_fp b z hb) (F5.keep fun b o hb e => hk' b o e fun z => W2.notOwn hS2j F5 (W2.ownI b z) hb) hG5 ?_ hA5 hx'')
            obtain ⟨o, n, ho, r⟩ := hl5; exact ⟨o, n, hk' _ o ho fun z => hD2 D (W2.ownI D z) rfl, r⟩
    · obtain rfl : i = n1 := by omega
      have T := W.done s' (fun s'' => (∀ b o, s'.heap.get? b = some o → ¬ own b → s''.heap.get? b = some o) ∧ Ext s₀ s'') hh hSti fun s'' hk hx' => ⟨hk, hx' _ _ hx hnew⟩
      refine wpAny_mono T (fun r s'' h => ?_) (fun _ _ h => h.elim)
      obtain ⟨rfl, hk', hx''⟩ := h
      refine wpAny_pure (hend s'' ρ' ys (Fi.keep fun b o hb e => hk' b o e fun z => W.notOwn hSti Fi (W.ownI b z) hb) ?_ hA hx'')
      obtain ⟨o, n, ho, r⟩ := hl; exact ⟨o, n, hk' _ o ho fun z => hDne D (W.ownI D z) rfl, r⟩
  exact codeAny_compStart_list loop (W.self 0 _ _ _ hSt3 loop)
end
end Mine
end
-- Fw21
section
open PySem PySem.W PyProof.Rows PySem.Calls
set_option Elab.async false
set_option maxRecDepth 100000
set_option linter.unusedVariables false
namespace Mine
/-- a list that may be appended to -/
noncomputable def LVP (h : Heap) (a : Addr) (n : Nat) (P : Nat → Value → Prop) : Prop := ∃ vs : Array Value, PlainL h a vs ∧ vs.size = n ∧ ∀ i v, vs[i]? = some v → P i v
theorem LVP.lv {h a n P} (L : LVP h a n P) : LV h a n P := by obtain ⟨vs, l, r⟩ := L; exact ⟨vs, l.isList, r⟩
theorem LVP.keep {h h' a n P} (L : LVP h a n P) (k : ∀ o, h.get? a = some o → h'.get? a = some o) : LVP h' a n P := by
  obtain ⟨vs, ⟨o, m, ho, r⟩, z⟩ := L; exact ⟨vs, ⟨o, m, k o ho, r⟩, z⟩
theorem LVP.chg {s s' : Shared} {a n P Z} (L : LVP s.heap a n P) (c : Chg Z s s') (h : ¬ Z a) : LVP s'.heap a n P := L.keep fun o e => c.1 a o e h
theorem LVP.ext {s s' : Shared} {a n P} (L : LVP s.heap a n P) (c : Ext s s') : LVP s'.heap a n P := L.chg c fun h => h
theorem LVP.imp {h a n P P'} (L : LVP h a n P) (k : ∀ i v, i < n → P i v → P' i v) : LVP h a n P' := by
  obtain ⟨vs, l, z, q⟩ := L
  exact ⟨vs, l, z, fun i v e => k i v (z ▸ (Array.getElem?_eq_some_iff.mp e).1) (q i v e)⟩
section
variable {prog : Program} {w : World} {A : Around} {s : Shared} {env : Env} {ρ : Str → Option Value}
theorem Append_wp {o elt : Expr} {apos pos p5 : Pos} {l : Addr} {n : Nat} {P : Nat → Value → Prop} {R : Value → Shared → Prop} {Q : Flow → Shared → Prop} (N : En env)
    (ho : Ev (model prog w) A (eval o env) s (IsV (.ref l))) (L : LVP s.heap l n P) (hn : n ≤ 1000) (he : Ev (model prog w) A (eval elt env) s R)
    (q : ∀ v s₁ s', R v s₁ → Ext s s₁ → LVP s'.heap l (n + 1) (fun j u => if j = n then u = v else P j u) → Chg (fun b => b = l) s₁ s' → Chg (fun b => b = l) s s' → Q .next s')
    (hbase : attributeBase o "append" env (eval o env) = eval o env := by rfl)
    (hfew : ((backTo pos (starEach [elt] env)).all (fun x => !x.1) && (backToKw pos (keywordEach [] env)).all (fun x => x.1.isSome)
      && decide (([elt] : List Expr).length + ([] : List Keyword).length + (if ([] : List Keyword).isEmpty then 0 else 1) < 30)) = true := by rfl)
    (hline : (apos.endLine == pos.line) = true := by rfl)
    (htrees : backTo pos (starEach [elt] env) = [(false, eval elt env)] := by rfl) (hs : swapsWith (.Call (.Attribute o "append" apos) [elt] [] pos) none p5.line env = pure false := by rfl) :
    wpAny (model prog w) A (exec (.Expr (.Call (.Attribute o "append" apos) [elt] [] pos) p5) env) Q (fun _ _ => False) s := by
  refine Expr_wp (wpAny_Call_append hbase hfew hline htrees (ho.use fun ov s₁ e x => ?_)) N.inter hs
  cases e
  obtain ⟨vs, hl, hz, hP⟩ := L.ext x
  refine ⟨l, vs, rfl, hl, (he.up x).use fun v s₂ hv y => ?_⟩
  have hl2 := hl.keeps y.all
  refine list_append_plainL hl2 (fun h' hl' hs' => ⟨rfl, ?_⟩) (by rw [sizeLine_eq]; omega)
  have c : Chg (fun b => b = l) s₂ { s₂ with heap := h' } := Chg.same hs' (by obtain ⟨o, _, ho, _⟩ := hl'; exact some_ne ho)
  refine q v s₂ _ hv (x.trans y) ⟨_, hl', by simp [hz], fun j u hu => ?_⟩ c ((Ext.any (x.trans y)).trans c)
  rw [Array.getElem?_push] at hu
  split at hu
  · rename_i e; cases hu; rw [if_pos (by omega)]
  · rename_i e; rw [if_neg (by omega)]; exact hP j u hu
/-- [] -/
theorem Ev.nilP {pos : Pos} {P : Nat → Value → Prop} : Ev (model prog w) A (eval (.List [] pos) env) s (fun v s' => ∃ a, v = .ref a ∧ s.heap.get? a = none ∧ LVP s'.heap a 0 P) :=
  fun s₁ x Q q => List_ (EvL.nil s₁ .refl _ fun vs s₂ e y => by
    subst e
    refine wpAny_newObj_type (q _ _ ⟨s₂.heap.objs.size, rfl, (x.trans y).2 _ (size_none _), #[], ⟨_, _, Heap.get?_push_size _ rfl, rfl, rfl, rfl⟩, rfl, fun i v h => by simp at h⟩ (y.trans Ext.push)) (by show ([] : List Value).toArray.size ≤ sizeLine; exact Nat.zero_le _))
theorem Ev.sum {v : Value} {ns : List Int} (hh : A.handled = none) (L : LN s.heap v ns) : Ev (model prog w) A (call (.builtin "sum") [v]) s (IsI ns.sum) :=
  fun s₁ x Q q => by
    obtain ⟨a, vs, rfl, hl, hi⟩ := L.ext x
    obtain ⟨xs, e⟩ := AllInts.items hi.allInts
    rw [e] at hl
    refine sum_intListG hh hl fun h' tk t' k => ?_
    refine q _ _ ⟨t', ?_⟩ (Ext.of_keep k)
    rw [preSum_eq, List.take_of_length_le (by simp), ← nums_intItems, ← e, show vs.toArray.toList = vs from rfl, hi.numsOf]
theorem Ev.sumC {f e : Expr} {pos : Pos} {ns : List Int} (hh : A.handled = none) (hf : Ev (model prog w) A (eval f env) s (IsV (.builtin "sum"))) (h : Ev (model prog w) A (eval e env) s (fun v s' => LN s'.heap v ns))
    (he : eval (.Call f [e] [] pos) env = (do callWith pos (← eval f env) [] (backTo pos (starEach [e] env)) (backToKw pos (keywordEach [] env))) := by rfl)
    (he2 : starEach [e] env = (false, eval e env) :: starEach [] env := by rfl) (hp : (backTo pos (starEach [] env)).any (·.1) = false := by rfl) :
    Ev (model prog w) A (eval (.Call f [e] [] pos) env) s (IsI ns.sum) :=
  Ev.callB hf (.cons h .nil (fun _ _ _ h x => h.ext x) he2) (fun vs s' ⟨v, r, e1, ev, e2⟩ x => by
    subst e1 e2
    exact Ev.sum hh ev) he he2 hp
theorem Tst.inL {l r : Expr} {pos : Pos} {k : Int} {ns : List Int} (hl : Ev (model prog w) A (eval l env) s (IsI k)) (hr : Ev (model prog w) A (eval r env) s (fun v s' => LN s'.heap v ns))
    (hm : behindInMarks .In r = false := by with_unfolding_all rfl) : Tst (model prog w) A (.Compare l [.In] [r] pos) env s (ns.any (· == k)) :=
  .cmp hl hr IsI.mono (fun x y s' hx hy _ => by
    obtain ⟨t, rfl⟩ := hx
    obtain ⟨b, us, rfl, l', i'⟩ := hy
    intro s₁ y Q q
    exact in_list_ints (isList_keep l' fun o e => y.1 b o e fun h => h) i' (q _ _ rfl .refl)) hm
theorem Ev.addL {l r : Expr} {pos : Pos} {ns ms : List Int} (hl : Ev (model prog w) A (eval l env) s (fun v s' => LN s'.heap v ns)) (hr : Ev (model prog w) A (eval r env) s (fun v s' => LN s'.heap v ms)) (hz : ns.length + ms.length ≤ 1000) :
    Ev (model prog w) A (eval (.BinOp l .Add r pos) env) s (fun v s' => LN s'.heap v (ns ++ ms)) :=
  .bin hl hr (fun _ _ _ h x => h.ext x) fun x y s' hx hy _ => by
    obtain ⟨a, vs, rfl, l, i⟩ := hx
    obtain ⟨b, us, rfl, l', i'⟩ := hy
    intro s₁ y Q q
    obtain ⟨⟨cls, dd, data, sl⟩, ho, hc, n, hd⟩ := isList_keep l fun o e => y.1 a o e fun h => h
    obtain ⟨⟨cls2, dd2, data2, sl2⟩, ho2, hc2, n2, hd2⟩ := isList_keep l' fun o e => y.1 b o e fun h => h
    simp only at hc hd hc2 hd2
    subst hc hd hc2 hd2
    have e : vs.toArray ++ us.toArray = (vs ++ us).toArray := by simp
    have hz' : vs.toArray.size + us.toArray.size ≤ sizeLine := by
      rw [sizeLine_eq]; have := intsLen i; have := intsLen i'; simp; omega
    refine concat_meets ⟨_, ho, rfl⟩ ⟨_, ho2, rfl⟩ noFill_list_add seq_list_add PySem.F.slot_list_add PySem.F.entry_list_add (PySem.F.args_list_add_2 _ _) (list_addW a b vs.toArray us.toArray n n2 dd dd2 sl sl2 hz') ⟨ho, ho2, ?_⟩
    rw [e]
    exact q _ _ ⟨_, vs ++ us, rfl, ⟨_, Heap.get?_push_size _ rfl, rfl, _, rfl⟩, i.append i'⟩ Ext.push
theorem rep_ints {x : Int} {t : Tok} : ∀ k, IntsAre (List.foldl (fun x1 x2 => x1 ++ x2) (#[] : Array Value) (List.replicate k #[.int x t])).toList (List.replicate k x) := by
  have : ∀ k (acc : Array Value), (List.foldl (fun x1 x2 => x1 ++ x2) acc (List.replicate k #[Value.int x t])).toList = acc.toList ++ List.replicate k (Value.int x t) := by
    intro k
    induction k with
    | zero => intro acc; simp
    | succ k ih => intro acc; rw [List.replicate_succ, List.foldl_cons, ih]; simp [List.replicate_succ]
  intro k
  rw [this]
  simp only [List.nil_append]
  induction k with
  | zero => exact .nil
  | succ k ih => exact .cons _ _ ih
theorem mul_listB {a : Addr} {items : Array Value} {k : Nat} {z : Int} {u : Tok} {Q : Value → Shared → Prop} {E : Value → Shared → Prop}
    (hl : s.heap.get? a = some { cls := .type "list", dict := none, data := .seq items k, slots := #[] })
    (hlo : -(2 ^ 63 : Int) ≤ z) (hhi : z < 2 ^ 63) (hsz : items.size * z.toNat ≤ 2 ^ 24)
    (h : Q (.ref s.heap.objs.size) { s with heap := s.heap.push { cls := .type "list", data := .seq (List.foldl (fun x1 x2 => x1 ++ x2) #[] (List.replicate (if items.isEmpty = true then 0 else z.toNat) items)) } }) :
    wpAny (model prog w) A (binaryOp .Mult (.ref a) (.int z u)) Q E s :=
  wpAny_binaryOp_repeat_ref (T := "list") (U := "int") (by decide) ⟨_, hl, rfl⟩ (fun s' => typeIs_int s' z u) noFill_list_mul F.fills_int_mul F.slot_int_rmul repeat_list F.slot_int_index.lookup
    (call_meets F.slot_int_rmul (typeIs_int s z u) F.entry_int_rmul (F.args_int_rmul_2 _ _) (int___rmul___int_list z u a items k)
      ⟨hl, rfl, ⟨_, hl, rfl⟩, call_meets F.slot_list_mul ⟨_, hl, rfl⟩ F.entry_list_mul (F.args_list_mul_2 _ _)
        (AutoListH.list___mul___list_int_3 a items k z u (by simp [Builtin.List.listFitsIndex]; omega) (by omega) (by simp [Builtin.List.listTooLong, sizeLine]; (with_reducible assumption)))
        ⟨hl, h⟩⟩)
/-- [c] * n -/
theorem Ev.mulD {e r : Expr} {p pos : Pos} {x : Int} {k : Nat} (he : Ev (model prog w) A (eval e env) s (IsI x)) (hr : Ev (model prog w) A (eval r env) s (IsI (k : Int))) (hk : k ≤ 1000)
    (h1 : starEach [e] env = (false, eval e env) :: starEach [] env := by rfl) :
    Ev (model prog w) A (eval (.BinOp (.List [e] p) .Mult r pos) env) s (fun v s' => LN s'.heap v (List.replicate k x)) := by
  refine .bin (P := fun v s' => ∃ a t, v = .ref a ∧ s'.heap.get? a = some { cls := .type "list", dict := none, data := .seq #[.int x t] 0, slots := #[] }) (R := IsI k) ?_ hr ?_ ?_
  · exact fun s₁ x1 Q q => List_ ((EvL.one he IsI.mono h1) s₁ x1 _ fun vs s₂ e y => by
      obtain ⟨_, rfl, t, rfl⟩ := e
      refine wpAny_newObj_type (q _ _ ⟨s₂.heap.objs.size, t, rfl, ?_⟩ (y.trans Ext.push)) (by show ([Value.int x t] : List Value).toArray.size ≤ sizeLine; rw [sizeLine_eq]; simp)
      exact Heap.get?_push_size _ rfl)
  · rintro v s₁ s₂ ⟨a, t, rfl, ho⟩ y; exact ⟨a, t, rfl, y.all _ _ ho⟩
  · intro _ _ s' zz3 zz4 _ s₁ y Q q
    obtain ⟨a, t, rfl, ho⟩ := zz3
    obtain ⟨u, rfl⟩ := zz4
    have hl := y.all _ _ ho
    refine mul_listB hl (by (with_reducible exact Mine.castLo (by decide))) (by (with_reducible exact Mine.castUp (by assumption) (by decide))) (by simp; (with_reducible exact Nat.le_trans (by assumption) (by decide))) ?_
    have fin : ∀ arr : Array Value, IntsAre arr.toList (List.replicate k x) → Q (.ref s₁.heap.objs.size) { s₁ with heap := s₁.heap.push { cls := .type "list", data := .seq arr } } :=
      fun arr hi => q _ _ ⟨_, arr.toList, rfl, ⟨_, Heap.get?_push_size _ rfl, rfl, 0, by simp⟩, hi⟩ Ext.push
    exact fin _ (rep_ints (x := x) (t := t) k)
end
end Mine
end
-- Fw22
section
open PySem PySem.W PyProof.Rows PySem.Calls
set_option Elab.async false
set_option maxRecDepth 100000
set_option linter.unusedVariables false
namespace Mine
/-- a dict from ints, of at most n keys -/
noncomputable def DV (h : Heap) (a : Addr) (n : Nat) (f : Int → Option Value) : Prop := h.IntMap a f ∧ h.DictLe a n
theorem DV.keep {h h' : Heap} {a n f} (D : DV h a n f) (k : ∀ o, h.get? a = some o → h'.get? a = some o) : DV h' a n f := by
  obtain ⟨⟨o, es, ep, ho, r⟩, le⟩ := D
  exact ⟨⟨o, es, ep, k o ho, r⟩, le.of_same ho (k o ho)⟩
theorem DV.chg {s s' : Shared} {a n f Z} (D : DV s.heap a n f) (c : Chg Z s s') (h : ¬ Z a) : DV s'.heap a n f := D.keep fun o e => c.1 a o e h
theorem DV.ext {s s' : Shared} {a n f} (D : DV s.heap a n f) (c : Ext s s') : DV s'.heap a n f := D.chg c fun h => h
theorem DV.ne {h a n f} (D : DV h a n f) : h.get? a ≠ none := by obtain ⟨⟨o, es, ep, ho, r⟩, le⟩ := D; exact some_ne ho
section
variable {prog : Program} {w : World} {A : Around} {s : Shared} {env : Env} {ρ : Str → Option Value}
theorem Ev.dictE {pos : Pos} : Ev (model prog w) A (eval (.Dict [] [] pos) env) s (fun v s' => ∃ a, v = .ref a ∧ s.heap.get? a = none ∧ DV s'.heap a 0 (fun _ => none)) :=
  fun s₁ x Q q => wpAny_Dict_empty (q _ _ ⟨_, rfl, x.2 _ (size_none _), ⟨_, _, _, Heap.get?_push_size _ rfl, rfl, rfl, by
    intro i e; simp at e, fun k => rfl⟩, .new _⟩ Ext.push)
theorem Ev.itemD {value slice : Expr} {pos : Pos} {a : Addr} {k : Int} {n : Nat} {f : Int → Option Value} {v : Value} (ho : Ev (model prog w) A (eval value env) s (IsV (.ref a)))
    (hi : Ev (model prog w) A (eval slice env) s (IsI k)) (D : DV s.heap a n f) (hv : f k = some v)
    (hs : ∀ l k u, subscripted slice false (.ref l) (.int k u) = operate [.ref l, .int k u] (getItem (.ref l) (.int k u)) := by intros; with_unfolding_all rfl) :
    Ev (model prog w) A (eval (.Subscript value slice pos) env) s (IsV v) :=
  fun s₁ x Q q => Subscript_ (ho s₁ x _ fun o s₂ eo y => hi s₂ (x.trans y) _ fun i s₃ ei z => by
    obtain ⟨t, rfl⟩ := ei; cases eo
    have D3 := D.ext (x.trans (y.trans z))
    exact tail_any D3.1.typeIs slot_dict_getitem.lookup (wpAny_getItem_intMap D3.1 hv (q _ _ rfl ((y.trans z).trans Ext.toks))) (hs _ _ _))
theorem SetD_wp {o i e : Expr} {p' pos : Pos} {R : Value → Shared → Prop} {a : Addr} {n : Nat} {f : Int → Option Value} {k : Int} {Q : Flow → Shared → Prop} (he : wpAny (model prog w) A (eval e env) (fun v s₁ =>
      Ev (model prog w) A (eval o env) s₁ (IsV (.ref a)) ∧ Ev (model prog w) A (eval i env) s₁ (IsI k) ∧ DV s₁.heap a n f ∧
      ∀ s₂ s', Ext s₁ s₂ → DV s'.heap a (n + 1) (fun x => if x = k then some v else f x) → Chg (fun b => b = a) s₂ s' → Q .next s') (fun _ _ => False) s) (hn : n ≤ 1000)
    (hs : swapsWith e (some (.Subscript o i p')) pos.line env = pure false := by rfl) :
    wpAny (model prog w) A (exec (.Assign [.Subscript o i p'] e pos) env) Q (fun _ _ => False) s :=
  wpAny_Assign_Subscript (wpAny_mono he (fun v s₁ ⟨ho, hi, D, q⟩ => ho s₁ .refl _ fun ov s₂ eo y => by
    cases eo
    exact hi s₂ y _ fun iv s₃ ⟨t, e⟩ z => by
      subst e
      have D3 := D.ext (y.trans z)
      refine wpAny_setItem_intMap_le D3.1 D3.2 (by rw [sizeLine_eq]; (with_reducible exact Nat.le_trans (by assumption) (by decide))) fun h' hm hle hs' => ?_
      have c : Chg (fun b => b = a) s₃ { s₃ with heap := h' } := Chg.same hs' (by obtain ⟨o, _, _, ho, _⟩ := hm; exact some_ne ho)
      exact q s₃ _ (y.trans z) ⟨hm, hle⟩ ⟨c.1, c.2, c.3, c.4⟩) fun _ _ h => h) hs
theorem Ev.intF {f e : Expr} {pos : Pos} {n : Int} (hf : Ev (model prog w) A (eval f env) s (IsV (.type "int"))) (h : Ev (model prog w) A (eval e env) s (IsI n))
    (he : eval (.Call f [e] [] pos) env = (do callWith pos (← eval f env) [] (backTo pos (starEach [e] env)) (backToKw pos (keywordEach [] env))) := by rfl)
    (he2 : starEach [e] env = (false, eval e env) :: starEach [] env := by rfl) (hp : (backTo pos (starEach [] env)).any (·.1) = false := by rfl) :
    Ev (model prog w) A (eval (.Call f [e] [] pos) env) s (IsI n) :=
  Ev.callT hf (.cons h .nil IsI.mono he2) (fun vs s' ⟨v, r, e1, ⟨t, ev⟩, e2⟩ x => by
    subst ev e1 e2
    exact fun s₁ y Q q => call_int_int (q _ _ ⟨t, rfl⟩ .refl)) he he2 hp
/-- an item of a tuple that the evaluation makes -/
theorem Ev.itemTN {value slice : Expr} {pos : Pos} {k : Nat} {R : Value → Shared → Prop} {P : List Value → Shared → Prop} (ho : Ev (model prog w) A (eval value env) s (fun v s' => ∃ a vs, v = .ref a ∧ IsTup s'.heap a vs.toArray ∧ P vs s'))
    (hi : Ev (model prog w) A (eval slice env) s (IsI (k : Int))) (hb : k < 2 ^ 62) (hP : ∀ vs s', P vs s' → k < vs.length) (hR : ∀ vs s' s'' v, P vs s' → Ext s' s'' → vs[k]? = some v → R v s'')
    (hs : ∀ l k u, subscripted slice false (.ref l) (.int k u) = operate [.ref l, .int k u] (getItem (.ref l) (.int k u)) := by intros; with_unfolding_all rfl) :
    Ev (model prog w) A (eval (.Subscript value slice pos) env) s R :=
  fun s₁ x Q q => Subscript_ (ho s₁ x _ fun o s₂ ⟨a, vs, eo, ht, hp⟩ y => hi s₂ (x.trans y) _ fun i s₃ ei z => by
    obtain ⟨t, rfl⟩ := ei; subst eo
    have hk := hP _ _ hp
    refine item_tupleT (j := k) (ht.keeps z.all) (by (with_reducible exact Mine.castLo (by decide))) (by omega) ?_ (List.getElem?_eq_getElem hk) (q _ _ (hR _ _ _ _ hp z (List.getElem?_eq_getElem hk)) (y.trans z)) (hs _ _ _)
    simp only [seqIndex?]
    simp
    omega)
end
end Mine
namespace Mine
theorem LVP.sys {env ρ a n P} {s s' : Shared} (L : LVP s.heap a n P) (F : Fm env s.heap ρ) (h : Sys env s s') : LVP s'.heap a n P := by
  obtain ⟨vs, ⟨o, m, ho, hc, hd, hdd⟩, z⟩ := L
  exact ⟨vs, ⟨o, m, h.keep ho (fun z => F.notSeq z ho hdd) (fun xs hx => by rw [hdd] at hx; cases hx), hc, hd, hdd⟩, z⟩
theorem DV.sys {env ρ a n f} {s s' : Shared} (D : DV s.heap a n f) (F : Fm env s.heap ρ) (hO : ¬ Own env a) (h : Sys env s s') : DV s'.heap a n f := by
  refine D.keep fun o e => h.keep e hO fun xs hx => ?_
  obtain ⟨⟨o', es, ep, ho, hc, hd, r⟩, le⟩ := D
  rw [e] at ho; cases ho; rw [hd] at hx; cases hx
end Mine
end
-- Fw23
section
open PySem PySem.W PyProof.Rows PySem.Calls
set_option Elab.async false
set_option maxRecDepth 100000
set_option linter.unusedVariables false
namespace Mine
section
variable {prog : Program} {w : World} {A : Around} {s : Shared} {env : Env} {ρ : Str → Option Value}
theorem AssignCompG_wp {elt target iter : Expr} {ifs : List Expr} {scope : Scope} {pos : Pos} {B : Addr → Prop} {n : Nat} {Bd : Nat → (Str → Option Value) → (Str → Option Value) → Prop}
    (hh : A.handled = none) (N : En env) (F : Fm env s.heap ρ) (ok : compOk scope env = true) (hit : ItEv prog w A env target iter s B n Bd)
    (tg : ∀ C, tgOk (chEnv scope C env) target = true) (tn : tgNew scope target = true) (hn : n ≤ 2 ^ 20)
    (Acc : Addr → Nat → List Value → Shared → Prop) (G : (Str → Option Value) → Prop)
    (Aq : ∀ D i ys s₁ s₂, Acc D i ys s₁ → SeqBut D s₁ s₂ → Acc D i ys s₂)
    (a0 : ∀ D s₁, Ext s s₁ → s.heap.get? D = none → s₁.heap.get? D ≠ none → Acc D 0 [] s₁) (g0 : G (chRho scope ρ))
    (hel : ∀ D C i ρ₁ ρ₂ ys s₁, i < n → Ext s s₁ → s₁.heap.get? D ≠ none → Acc D i ys s₁ → G ρ₁ → Bd i ρ₁ ρ₂ → Fm (chEnv scope C env) s₁.heap ρ₂ → En (chEnv scope C env) →
      ∃ b, TstL (model prog w) A ifs (chEnv scope C env) s₁ b ∧ G ρ₂ ∧ (b = false → Acc D (i+1) ys s₁) ∧
        (b = true → Ev (model prog w) A (eval elt (chEnv scope C env)) s₁ (fun v s₂ => Ext s₁ s₂ → Acc D (i+1) (ys ++ [v]) s₂)))
    (hs : ∀ x, foldedSetIterable iter env x = pure x)
    {x : Str} {px pos' : Pos} {Q : Flow → Shared → Prop} (hxs : stOk env x = true) (hw : swapsWith (.ListComp elt [⟨target, iter, ifs, 0⟩] scope pos) (some (.Name x px)) pos'.line env = pure true)
    (q : ∀ D ys s₁ s', s.heap.get? D = none → s₁.heap.IsList D ys.toArray → Acc D n ys s₁ → Ext s s₁ → Fm env s'.heap (upd ρ x (.ref D)) → (∀ b o xs k, s₁.heap.get? b = some o → o.data = .seq xs k → s'.heap.get? b = some o) → Chg (TgA env x) s s' → Q .next s') :
    wpAny (model prog w) A (exec (.Assign [.Name x px] (.ListComp elt [⟨target, iter, ifs, 0⟩] scope pos) pos') env) Q (fun _ _ => False) s := by
  suffices K : ∀ QQ : Value → Shared → Prop, (∀ v s', Q .next s' → QQ v s') → wpAny (model prog w) A (comprehension (.ListComp elt [⟨target, iter, ifs, 0⟩] scope pos) scope env (firstIterPos [⟨target, iter, ifs, 0⟩] pos) (newList []) (firstAsync [⟨target, iter, ifs, 0⟩]) (firstIter [⟨target, iter, ifs, 0⟩] env) (some (assign (.Name x px) env))) QQ (fun _ _ => False) s by
    rw [exec_Assign_Name_used _ _ _ _ hw, arm_evalThenUse_ListComp]
    exact wpAny_bind (wpAny_standAt (wpAny_bind (wpAny_bind (K _ fun v s' h => wpAny_pure (wpAny_pure h)))))
  intro QQ hQQ
  have x0 : Ext s s := .refl
  have ok' := ok
  simp only [compOk, Bool.and_eq_true, decide_eq_true_eq, beq_iff_eq] at ok'
  obtain ⟨⟨hfree, hnd⟩, hk⟩ := ok'
  refine wpAny_comprehension_free (use := some (assign (.Name x px) env)) rfl hs (closureFor_eq hfree) hk (fun y hy he => lookup_of_nodup hnd (he ▸ hy)) ?_
  refine hit s .refl _ fun I fp own St s₁ W hSt x1 hnew hfp => ?_
  refine wpAny_newObj_type (T := "list") ?_ (by show ([] : List Value).toArray.size ≤ sizeLine; exact Nat.zero_le _)
  generalize hs2 : ({ heap := s₁.heap.push { cls := .type "list", dict := none, data := .seq ([] : List Value).toArray }, gens := s₁.gens, drawn := s₁.drawn, toks := s₁.toks, os := s₁.os } : Shared) = s₂
  have x2 : Ext s₁ s₂ := hs2 ▸ Ext.push
  have hD : s₁.heap.get? s₁.heap.objs.size = none := size_none _
  have hDl : s₂.heap.IsList s₁.heap.objs.size ([] : List Value).toArray := by rw [← hs2]; exact ⟨_, Heap.get?_push_size _ rfl, rfl, _, rfl⟩
  have F2 : Fm env s₂.heap ρ := F.ext (x0.trans (x1.trans x2))
  generalize s₁.heap.objs.size = D at hD hDl
  refine newEnv_comp F2 ok fun C s₃ hC F3 x3 hown => ?_
  have tgn : ∀ b, TgE (chEnv scope C env) target b → s₂.heap.get? b = none := fun b t => t.new tn hC hown
  generalize hE : chEnv scope C env = env' at F3 tgn
  have hE' : ({ scope := relabel scope env, locals := C, globals := env.globals, cells := cellsFrom (C + 1) scope.names (clOf env scope.names []), qual := env.qual, func := none, code := env.code, frame := env.frame, builtins := env.builtins } : Env) = env' := hE
  show codeAny _ A (.compStart _ 0 (.ref I) (.ref D) { scope := relabel scope env, locals := C, globals := env.globals, cells := cellsFrom (C + 1) scope.names (clOf env scope.names []), qual := env.qual, func := none, code := env.code, frame := env.frame, builtins := env.builtins }) _ s₃
  rw [hE']
  have hloc : env'.locals = C := by rw [← hE]; rfl
  have N' : En env' := hE ▸ N.child hk
  have tg' : tgOk env' target = true := hE ▸ tg C
  have hSt3 : St 0 s₃ := W.frame 0 _ _ hSt fun b o _ e => (x2.trans x3).1 b o e fun h => h
  have hDne : ∀ b, fp b → b ≠ D := fun b hb e => W.ex hSt hb (e ▸ hD)
  have hDD : D ≠ C := fun e => by obtain ⟨o, ho, _⟩ := hDl; rw [e, hC] at ho; cases ho
  have hDown : ¬ Own env' D := fun ho => by
    obtain ⟨o, ho', hc, k, hd⟩ := hDl
    exact F3.notSeq ho (x3.all _ _ ho') hd
  have hD0 : s.heap.get? D = none := x1.2 D hD
  have hC0 : s.heap.get? C = none := x1.2 C (x2.2 C hC)
  have hx03 : Ext s s₃ := x1.trans (x2.trans x3)
  have hlt : ∀ b, TgE env' target b → s.heap.get? b = none := fun b t => x1.2 b (x2.2 b (tgn b t))
  let ST : Nat → Shared → Prop := fun k s' => ∃ i ρ' ys, i ≤ n ∧ k = n - i ∧ St i s' ∧ Fm env' s'.heap ρ' ∧ G ρ' ∧ s'.heap.IsList D ys.toArray ∧ ys.length ≤ i ∧ Acc D i ys s' ∧ Ext s s'
  have hend : ∀ s' ρ' ys, Fm env' s'.heap ρ' → s'.heap.IsList D ys.toArray → Acc D n ys s' → Ext s s' →
      compPost (model prog w) A (fun _ _ => False) (some (assign (.Name x px) env)) QQ (.ref D) C (.ok .next) s' := fun s' ρ' ys F' hl hA hx => by
    obtain ⟨m, hm, _⟩ := F'.ns
    rw [hloc] at hm
    have F0 : Fm env s'.heap ρ := F.ext hx
    refine wpAny_assign_Name (F0.store N hxs fun s'' F'' c => ?_)
    have hCT : ¬ TgA env x C := fun z => F.exOwn z.own hC0
    refine ⟨m, hm.at' fun o e => c.1 C o e hCT, fun h' hs' => hQQ _ _ (q D ys s' _ hD0 hl hA hx (F''.keep fun b o hb e => hs'.extBut b o (fun z => F.exOwn hb (z ▸ hC0)) e) ?_ (((Ext.any hx).trans c).extNew hs'.extBut hC0))⟩
    intro b o xs k e hd
    refine hs'.extBut b o (fun z => ?_) (c.1 b o e fun z => F0.notSeq z.own e hd)
    subst z
    obtain ⟨o', es, ep, ho', hd', _⟩ := hm
    rw [e] at ho'; cases ho'; rw [hd] at hd'; cases hd'
  have loop : codeAny (model prog w) A (.compLoop (.ListComp elt [⟨target, iter, ifs, 0⟩] scope pos) 0 (.ref I) (.ref D) env') (compPost (model prog w) A (fun _ _ => False) (some (assign (.Name x px) env)) QQ (.ref D) C) s₃ := by
    refine codeAny_loop rfl ST (fun k s' hI => ?_) n ⟨0, _, [], Nat.zero_le _, rfl, hSt3, F3, g0, (by obtain ⟨o, ho, r⟩ := hDl; exact ⟨o, x3.all _ _ ho, r⟩), Nat.le_refl _, a0 D s₃ (x0.trans hx03) (x0.2 D hD0) (by obtain ⟨o, ho, _⟩ := hDl; exact some_ne (x3.all _ _ ho)), hx03⟩
    obtain ⟨i, ρ', ys, hi, rfl, hSti, Fi, hG, hl, hlen, hA, hx⟩ := hI
    show wpAny _ A ((compTurn (.ListComp elt [⟨target, iter, ifs, 0⟩] scope pos) 0 (.ref I) (.ref D) env').onRaise (fun x => do noteFrame x env'; theTreesLotGoes x)) _ _ s'
    refine wpAny_noted ?_
    rw [compTurn_list]
    refine wpAny_bind (wpAny_standAt (wpAny_bind ?_))
    by_cases hin : i < n
    · have T := W.turn env' i s' ρ' (fun s₄ => ∃ ρ₂, Bd i ρ' ρ₂ ∧ Fm env' s₄.heap ρ₂ ∧ St (i + 1) s₄ ∧ s₄.heap.IsList D ys.toArray ∧ Acc D i ys s₄ ∧ Ext s s₄) N' tg' hin hSti Fi (fun b hb => W.notOwn hSti Fi hb)
        fun s₄ ρ₂ hB F4 hSt4 c4 => by
          have hnD : ¬ (own D ∨ TgE env' target D) := fun z => z.elim (fun z => hDne D (W.ownI D z) rfl) fun z => hDown z.own
          refine ⟨ρ₂, hB, F4, hSt4, ?_, Aq _ _ _ _ _ hA ?_, hx.transE c4 fun b hb z => z.elim (fun z => absurd (hnew b z) hb) fun z => absurd (hlt b z) hb⟩
          · obtain ⟨o, ho, r⟩ := hl; exact ⟨o, c4.1 _ o ho hnD, r⟩
          · intro b o xs k e nD hd
            refine c4.1 b o e fun z => z.elim (fun z => ?_) fun z => Fi.notSeq z.own e hd
            obtain ⟨o', ys', e', hd'⟩ := W.fld _ _ hSti b z
            rw [e] at e'; cases e'; rw [hd] at hd'; cases hd'
      refine wpAny_mono T (fun r s'' h => ?_) (fun _ _ h => h.elim)
      cases r with
      | none => exact h.elim
      | some v =>
        refine wpAny_bind (wpAny_mono h (fun _ s'' h => wpAny_bind (wpAny_mono h (fun _ s₄ h => ?_) fun _ _ h => h.elim)) fun _ _ h => h.elim)
        obtain ⟨ρ₂, hB, F4, hSt4, hl4, hA4, hx4⟩ := h
        have hD4 : s₄.heap.get? D ≠ none := by obtain ⟨o, ho, _⟩ := hl4; exact some_ne ho
        obtain ⟨b, htst, hG2, hf, ht⟩ := hel D C i ρ' ρ₂ ys s₄ hin (x0.trans hx4) hD4 hA4 hG hB (hE ▸ F4) (hE ▸ N')
        rw [hE] at htst ht
        refine wpAny_bind (wpAny_mono (htst s₄ .refl (fun ok s₅ => ok = b ∧ Ext s₄ s₅) fun s₅ x => ⟨rfl, x⟩) (fun ok s₅ h => ?_) fun _ _ h => h.elim)
        obtain ⟨rfl, x5⟩ := h
        cases ok with
        | false =>
          refine wpAny_pure ⟨rfl, n - (i + 1), by (with_reducible exact Nat.sub_lt_sub_left (by assumption) (Nat.lt_succ_self _)), i + 1, ρ₂, ys, hin, rfl, W.frame _ _ _ hSt4 (fun b o _ e => x5.all b o e), F4.ext x5, hG2, ?_, by (with_reducible exact Nat.le_succ_of_le (by assumption)), Aq _ _ _ _ _ (hf rfl) (.ext x5), hx4.trans x5⟩
          obtain ⟨o, ho, r⟩ := hl4; exact ⟨o, x5.all _ o ho, r⟩
        | true =>
          simp only [if_true]
          refine wpAny_bind (wpAny_bind (((ht rfl).up x5).useE fun v s₆ hv x6 => wpAny_bind ?_))
          have hl6 : s₆.heap.IsList D ys.toArray := by obtain ⟨o, ho, r⟩ := hl4; exact ⟨o, x6.all _ _ (x5.all _ o ho), r⟩
          refine wpAny_list_append hl6 (fun h' hl' hs' => wpAny_pure (wpAny_pure ⟨rfl, n - (i + 1), by (with_reducible exact Nat.sub_lt_sub_left (by assumption) (Nat.lt_succ_self _)), i + 1, ρ₂, ys ++ [v], hin, rfl, ?_, ?_, hG2, by simpa using hl', by simp; (with_reducible assumption), Aq _ _ _ _ _ (hv (x5.trans x6)) ?_, ?_⟩)) (by rw [sizeLine_eq]; simp; omega)
          · refine W.frame (i + 1) s₆ _ (W.frame _ _ _ hSt4 (fun b o _ e => x6.all b o (x5.all b o e))) fun b o hb e => hs'.extBut b o (hDne b hb) e
          · refine Fm.keep (h := s₆.heap) ((F4.ext x5).ext x6) fun b o hb e => hs'.extBut b o (fun q => hDown (q ▸ hb)) e
          · exact fun b o xs k e nD hd => hs'.extBut b o nD e
          · exact (hx4.trans (x5.trans x6)).extNew hs'.extBut hD0
    · obtain rfl : i = n := by omega
      have T := W.done s' (fun s'' => (∀ b o, s'.heap.get? b = some o → ¬ own b → s''.heap.get? b = some o) ∧ Ext s s'') hh hSti fun s'' hk hx' => ⟨hk, hx' _ _ hx hnew⟩
      refine wpAny_mono T (fun r s'' h => ?_) (fun _ _ h => h.elim)
      obtain ⟨rfl, hk', hx''⟩ := h
      refine wpAny_pure (hend s'' ρ' ys (Fi.keep fun b o hb e => hk' b o e fun z => W.notOwn hSti Fi (W.ownI b z) hb) ?_ (Aq _ _ _ _ _ hA ?_) hx'')
      · obtain ⟨o, ho, r⟩ := hl; exact ⟨o, hk' _ o ho fun z => hDne D (W.ownI D z) rfl, r⟩
      · intro b o xs k e nD hd
        refine hk' b o e fun z => ?_
        obtain ⟨o', ys', e', hd'⟩ := W.fld _ _ hSti b z
        rw [e] at e'; cases e'; rw [hd] at hd'; cases hd'
  exact codeAny_compStart_list loop (W.self 0 _ _ _ hSt3 loop)
theorem AssignCompR_wp {elt target iter : Expr} {scope : Scope} {pos : Pos} {B : Addr → Prop} {n m : Nat} {Bd : Nat → (Str → Option Value) → (Str → Option Value) → Prop} {Bd' : Nat → (Str → Option Value) → Prop}
    (M : Nat → Nat → Int)
    (hh : A.handled = none) (N : En env) (F : Fm env s.heap ρ) (ok : compOk scope env = true) (hit : ItEv prog w A env target iter s B n Bd) (nr : Nrm (chRho scope ρ) Bd Bd')
    (tg : ∀ C, tgOk (chEnv scope C env) target = true) (tn : tgNew scope target = true) (hn : n ≤ 2 ^ 20)
    (hel : ∀ C i ρ₂ s₁, i < n → Ext s s₁ → Bd' i ρ₂ → Fm (chEnv scope C env) s₁.heap ρ₂ → En (chEnv scope C env) →
      Ev (model prog w) A (eval elt (chEnv scope C env)) s₁ (fun v s₂ => ∃ q, v = .ref q ∧ s₁.heap.get? q = none ∧ LI s₂.heap q m (M i)))
    (hs : ∀ x, foldedSetIterable iter env x = pure x)
    {x : Str} {px pos' : Pos} {Q : Flow → Shared → Prop} (hxs : stOk env x = true) (hw : swapsWith (.ListComp elt [⟨target, iter, [], 0⟩] scope pos) (some (.Name x px)) pos'.line env = pure true)
    (q : ∀ a r s', Mx s'.heap a n m r M → (∀ b, Foot a n r b → s.heap.get? b = none) → Fm env s'.heap (upd ρ x (.ref a)) → Chg (TgA env x) s s' → Q .next s') :
    wpAny (model prog w) A (exec (.Assign [.Name x px] (.ListComp elt [⟨target, iter, [], 0⟩] scope pos) pos') env) Q (fun _ _ => False) s := by
  obtain ⟨G, g0, gs⟩ := nr
  refine AssignCompG_wp (B := B) (n := n) (Bd := Bd) hh N F ok hit tg tn hn (fun D i ys s' => ∃ r : Nat → Addr, ys.length = i ∧ (∀ j, j < i → ys[j]? = some (.ref (r j)) ∧ LI s'.heap (r j) m (M j) ∧ s.heap.get? (r j) = none ∧ r j ≠ D) ∧ ∀ j k, j < i → k < i → r j = r k → j = k)
    G ?_ (fun D s₁ x h1 h2 => ⟨fun _ => 0, rfl, fun j h => absurd h (Nat.not_lt_zero j), fun j k h => absurd h (Nat.not_lt_zero j)⟩) g0 ?_ hs hxs hw ?_
  · intro D i ys s₁ s₂ zz5 sb
    obtain ⟨r, hl, hA, hj⟩ := zz5
    refine ⟨r, hl, fun j h => ⟨(hA j h).1, ?_, (hA j h).2.2⟩, hj⟩
    obtain ⟨o, xs, k, e, hd⟩ := (hA j h).2.1.seq
    exact (hA j h).2.1.keep fun o' e' => by
      rw [e] at e'; cases e'; exact sb _ o xs k e (hA j h).2.2.2 hd
  · intro D C i ρ₁ ρ₂ ys s₁ hi x hD zz10 hG hB F1 N1
    obtain ⟨r, hl, hA, hj⟩ := zz10
    obtain ⟨g2, b2⟩ := gs _ _ _ hG hB
    refine ⟨true, .nil, g2, fun h => (nomatch h), fun _ => (hel C i ρ₂ s₁ hi x b2 F1 N1).imp fun v s₂ hr x2 _ => ?_⟩
    obtain ⟨q, rfl, hq, hL⟩ := hr
    have hrq : ∀ j, j < i → r j ≠ q := fun j h e => (hA j h).2.1.ne (e ▸ hq)
    refine ⟨fun j => if j = i then q else r j, by simp [hl], fun j h => ?_, fun j k h1 h2 e => ?_⟩
    · by_cases h' : j = i
      · subst h'
        simp only [if_true]
        exact ⟨by rw [List.getElem?_append_right (by (with_reducible exact Nat.le_of_eq (by assumption)))]; simp [hl], hL, x.2 _ hq, fun e => hD (e ▸ hq)⟩
      · have hji : j < i := by omega
        simp only [h', if_false]
        exact ⟨by rw [List.getElem?_append_left (by omega)]; exact (hA j hji).1, (hA j hji).2.1.ext x2, (hA j hji).2.2⟩
    · dsimp only at e
      split at e <;> split at e
      · omega
      · rename_i q1 q2; exact absurd e.symm (hrq k (by omega))
      · exact absurd e (hrq j (by omega))
      · exact hj j k (by omega) (by omega) e
  · intro D ys s₁ s' hD hl zz6 x1 F' sq c
    obtain ⟨r, hlen, hA, hj⟩ := zz6
    have kp : ∀ {a k P}, LV s₁.heap a k P → LV s'.heap a k P := fun {a k P} L => by
      obtain ⟨o, xs, k, e, hd⟩ := L.seq
      exact L.keep fun o' e' => by rw [e] at e'; cases e'; exact sq _ o xs k e hd
    have hl' : LR s₁.heap D n r := ⟨ys.toArray, hl, by simpa using hlen, fun i v h => by
      have h' : ys[i]? = some v := by simpa using h
      have hi : i < n := by have := (List.getElem?_eq_some_iff.mp h').1; omega
      rw [(hA i hi).1] at h'; cases h'; rfl⟩
    refine q D r s' ⟨kp hl', fun i hi => kp (hA i hi).2.1, hj, fun i hi => (hA i hi).2.2.2⟩ ?_ F' c
    rintro b (rfl | ⟨i, hi, rfl⟩)
    · exact hD
    · exact (hA i hi).2.2.1
end
end Mine
end
-- Fw24
section
open PySem PySem.W PyProof.Rows PySem.Calls
set_option Elab.async false
set_option maxRecDepth 100000
set_option linter.unusedVariables false
namespace Mine
section
variable {prog : Program} {w : World} {A : Around} {s : Shared}
theorem call_K0 {Q : Value → Shared → Prop} {fa : Addr} {o : Obj} {fd : FuncData} {body : List Stmt} {vals : List Value} {binds : List (Str × Value)}
    (hroom : A.depth < recursionLimit) (ho : s.heap.get? fa = some o) (hdt : o.data = .func fd) (nolimit : s.heap.NoLimit) (hbody : fd.body = .stmts body) (hclo : fd.closure = []) (hcd : s.heap.CodeRec fd.code fd.qualname)
    (hbind : bindArgs fd ⟨vals, []⟩ = pure binds) (hkd : bindOk fd.scope binds = true) (hnd : (fd.scope.names.map (·.1)).Nodup)
    (hg : fd.globals = mainGlobals) (hbi : fd.builtins = builtinsNs)
    (h : ∀ env s₁, env = callEnvC fd s.heap.objs.size fa → En env → Fm env s₁.heap (fun x => binds.reverse.lookup x) → Ext s s₁ → (∀ b, Own env b → s.heap.get? b = none) →
      wpAny (model prog w) (A.deeper env) (execs body env) (fun f s' => Q (retv f) s') (fun _ _ => False) s₁)
    (hco : fd.scope.isCoroutine = false := by rfl) (hgen : fd.scope.isGenerator = false := by rfl) (hk : fd.scope.kind = .function := by rfl) :
    wpAny (model prog w) A (call (.ref fa) vals) Q (fun _ _ => False) s := by
  have hkinds : ∀ x ∈ binds, fd.scope.names.lookup x.1 = some .local ∨ (fd.scope.names.lookup x.1 = some .cell ∧ ((cellsFrom (s.heap.objs.size + 1) fd.scope.names []).lookup x.1).isSome = true) := fun x hx => by
    have := List.all_eq_true.mp hkd x hx
    simp only [Bool.or_eq_true, beq_iff_eq] at this
    exact this.imp id fun e => ⟨e, cellsFrom_has _ _ _ (mem_of_lookup e)⟩
  refine wpAny_call (codeAny_call_cells hroom ho hdt nolimit hcd hbody hbind hclo hkinds (fun s₁ x => ?_) hco hgen hk)
  have hsz : ∀ b : Addr, s.heap.objs.size ≤ b → s.heap.get? b = none := fun b hb => by
    cases e : s.heap.get? b with
    | none => rfl
    | some o => exact absurd (Heap.lt_size e) (Nat.not_lt.mpr hb)
  have F : Fm (callEnvC fd s.heap.objs.size fa) s₁.heap (fun x => binds.reverse.lookup x) := by
    refine ⟨⟨_, x.toInCall.ns, fun y hy => ?_⟩, fun y c hy => ?_, fun y c hy => ?_, fun y z c hy hz => name_of_addr x.apart (mem_of_lookup hy) (mem_of_lookup hz)⟩
    · rw [bindL_at _ _ _ hy]; simp
    · have := x.cell y c hy
      rw [bindC_at _ _ _ fun e => ?_] at this
      · simpa using this
      · have hm := cellsFrom_kind _ _ _ _ (mem_of_lookup hy)
        have e' : fd.scope.names.lookup y = some .local := e
        rw [lookup_of_nodup hnd hm.1] at e'; cases e'
    · exact Nat.ne_of_gt (x.above y c (mem_of_lookup hy))
  have X : Ext s s₁ := by
    obtain ⟨h', tk, rfl, hk'⟩ := x.done
    exact Ext.of_keep hk'
  have own : ∀ b, Own (callEnvC fd s.heap.objs.size fa) b → s.heap.get? b = none := fun b hb => by
    rcases hb with rfl | ⟨y, hy⟩
    · exact size_none _
    · exact hsz b (Nat.le_of_lt (x.above y b (mem_of_lookup hy)))
  exact wpAny_mono (h _ s₁ rfl ⟨hk, hg, hbi⟩ F X own) (fun f s' q => by cases f <;> exact q) fun _ _ q => q.elim
end
end Mine
end
-- Fw25
section
open PySem PySem.W PyProof.Rows PySem.Calls
set_option Elab.async false
set_option maxRecDepth 100000
set_option linter.unusedVariables false
namespace Mine
section
variable {prog : Program} {w : World} {A : Around} {s : Shared} {env : Env} {ρ : Str → Option Value}
/-- found.append(e), e with effects -/
theorem AppendE_wp {o elt : Expr} {apos pos p5 : Pos} {l : Addr} {n : Nat} {P : Nat → Value → Prop} {Q : Flow → Shared → Prop} (N : En env)
    (ho : Ev (model prog w) A (eval o env) s (IsV (.ref l))) (L : LVP s.heap l n P) (hn : n ≤ 1000)
    (he : ∀ s₁, Ext s s₁ → wpAny (model prog w) A (eval elt env) (fun v s₂ => LVP s₂.heap l n P ∧ ∀ s', LVP s'.heap l (n + 1) (fun j u => if j = n then u = v else P j u) → Chg (fun b => b = l) s₂ s' → Q .next s') (fun _ _ => False) s₁)
    (hbase : attributeBase o "append" env (eval o env) = eval o env := by rfl)
    (hfew : ((backTo pos (starEach [elt] env)).all (fun x => !x.1) && (backToKw pos (keywordEach [] env)).all (fun x => x.1.isSome)
      && decide (([elt] : List Expr).length + ([] : List Keyword).length + (if ([] : List Keyword).isEmpty then 0 else 1) < 30)) = true := by rfl)
    (hline : (apos.endLine == pos.line) = true := by rfl)
    (htrees : backTo pos (starEach [elt] env) = [(false, eval elt env)] := by rfl) (hs : swapsWith (.Call (.Attribute o "append" apos) [elt] [] pos) none p5.line env = pure false := by rfl) :
    wpAny (model prog w) A (exec (.Expr (.Call (.Attribute o "append" apos) [elt] [] pos) p5) env) Q (fun _ _ => False) s := by
  refine Expr_wp (wpAny_Call_append hbase hfew hline htrees (ho.use fun ov s₁ e x => ?_)) N.inter hs
  cases e
  obtain ⟨vs, hl, hz, hP⟩ := L.ext x
  refine ⟨l, vs, rfl, hl, wpAny_mono (he s₁ x) (fun v s₂ h => ?_) fun _ _ h => h⟩
  obtain ⟨⟨vs2, hl2, hz2, hP2⟩, q⟩ := h
  refine list_append_plainL hl2 (fun h' hl' hs' => ⟨rfl, ?_⟩) (by rw [sizeLine_eq]; omega)
  have c : Chg (fun b => b = l) s₂ { s₂ with heap := h' } := Chg.same hs' (by obtain ⟨o, _, ho, _⟩ := hl'; exact some_ne ho)
  refine q _ ⟨_, hl', by simp [hz2], fun j u hu => ?_⟩ c
  rw [Array.getElem?_push] at hu
  split at hu
  · rename_i e; cases hu; rw [if_pos (by omega)]
  · rename_i e; rw [if_neg (by omega)]; exact hP2 j u hu
/-- x, y = e, a pair that the evaluation makes -/
theorem AssignPN_wp {x y : Str} {px py tp pos : Pos} {k : Nat} {e : Expr} {P : Value → Value → Shared → Prop} {Q : Flow → Shared → Prop} (hh : A.handled = none) (N : En env) (F : Fm env s.heap ρ)
    (h : Ev (model prog w) A (eval e env) s (fun v s' => ∃ T v₁ v₂, v = .ref T ∧ IsTup s'.heap T [v₁, v₂].toArray ∧ P v₁ v₂ s')) (hx : stOk env x = true) (hy : stOk env y = true)
    (hP : ∀ v₁ v₂ s₁ s₂, P v₁ v₂ s₁ → Ext s₁ s₂ → P v₁ v₂ s₂)
    (hw : swappedStores [.Tuple [.Name x px, .Name y py] k tp] e env = pure none)
    (q : ∀ v₁ v₂ s₁ s', P v₁ v₂ s₁ → Ext s s₁ → Chg (Own env) s₁ s' → Fm env s'.heap (upd (upd ρ x v₁) y v₂) → Chg (Own env) s s' → Q .next s')
    (hs : swapsWithSole [.Tuple [.Name x px, .Name y py] k tp] e pos.line env = pure false := by rfl)
    (ha : assignEach [.Name x px, .Name y py] env = [(false, assign (.Name x px) env), (false, assign (.Name y py) env)] := by rfl) :
    wpAny (model prog w) A (exec (.Assign [.Tuple [.Name x px, .Name y py] k tp] e pos) env) Q (fun _ _ => False) s := by
  refine Assign_Tuple (h.use fun v s₁ ⟨T, v₁, v₂, ev, hT, hp⟩ x1 => ?_) hs hw
  subst ev
  refine wpAny_assign_Tuple hh hT (by rw [ha]; rfl) (by rw [ha]; rfl) fun h' he => ?_
  have x2 : Ext s₁ { s₁ with heap := h' } := Chg.extNew (Z := NoZ) .refl he (size_none _)
  rw [ha]
  show wpAny _ _ (assignInOrder [assign (.Name x px) env, assign (.Name y py) env] [v₁, v₂]) _ _ _
  refine wpAny_assignInOrder_more (wpAny_assign_Name (((F.ext x1).ext x2).store N hx fun s₃ F3 c3 => ?_))
  refine wpAny_assignInOrder_more (wpAny_assign_Name (F3.store N hy fun s₄ F4 c4 => ?_))
  have c : Chg (Own env) { s₁ with heap := h' } s₄ := (c3.mono fun _ => TgA.own).trans (c4.mono fun _ => TgA.own)
  exact wpAny_assignInOrder_none (q v₁ v₂ _ s₄ (hP _ _ _ _ hp x2) (x1.trans x2) c F4 ((Ext.any (x1.trans x2)).trans c))
theorem Ev.sliceToM {value e : Expr} {p pos : Pos} {l : Addr} {n k : Nat} {P : Nat → Value → Prop} (ho : Ev (model prog w) A (eval value env) s (IsV (.ref l))) (L : LV s.heap l n P)
    (he : Ev (model prog w) A (eval e env) s (IsI (k : Int))) (hn : n ≤ 100) (ht : ∀ o r, letTemporaryGo value o r = pure () := by intro _ _; rfl) :
    Ev (model prog w) A (eval (.Subscript value (.Slice none (some e) none p) pos) env) s (fun v s' => ∃ D, v = .ref D ∧ s.heap.get? D = none ∧ LV s'.heap D (Nat.min k n) P) :=
  fun s₁ x Q q => wpAny_Subscript_list_slice (ho s₁ x _ fun o s₂ eo y => wpAny_evalPart_none (wpAny_evalPart_some (he s₂ (x.trans y) _ fun v s₃ ev z => by
    obtain ⟨t, rfl⟩ := ev; cases eo
    obtain ⟨vs, hl, hz, hP⟩ := L.ext (x.trans (y.trans z))
    refine ⟨l, vs, none, some (k : Int), rfl, hl, by rw [sizeLine_eq]; omega, .none, .int _ _, ?_⟩
    have x2 : Ext s₃ { s₃ with heap := (s₃.heap.push { cls := .type "slice", data := .fields #[.none, .int k t, .none] }).push { cls := .type "list", data := .seq (slicePick vs none (some (k : Int)) none) } } := Ext.of_keep fun b o e => Heap.get?_push_of_some _ (Heap.get?_push_of_some _ e)
    have hsz : (s₃.heap.push { cls := .type "slice", data := .fields #[.none, .int k t, .none] }).objs.size = s₃.heap.objs.size + 1 := Heap.size_push ..
    refine q _ _ ⟨_, rfl, (x.trans (y.trans z)).2 _ ?_, slicePick vs none (some (k : Int)) none, ⟨{ cls := .type "list", data := .seq (slicePick vs none (some (k : Int)) none) }, ?_, rfl, 0, rfl⟩, ?_, ?_⟩ ((y.trans z).trans x2)
    · cases h : s₃.heap.get? (s₃.heap.objs.size + 1) with
      | none => rfl
      | some o => exact absurd (Heap.lt_size h) (Nat.not_lt_of_le (Nat.le_succ _))
    · have := Heap.get?_push_size (s₃.heap.push { cls := .type "slice", data := .fields #[.none, .int k t, .none] }) (o := { cls := .type "list", data := .seq (slicePick vs none (some (k : Int)) none) }) rfl
      rwa [hsz] at this
    · rw [slicePick_upto' vs k]; simp [hz]
    · intro i u hu
      rw [slicePick_upto' vs k] at hu
      simp only [List.getElem?_toArray, List.getElem?_take] at hu
      split at hu
      · exact hP i u (by simpa using hu)
      · cases hu))) ht
end
end Mine
end
section
open PySem PySem.W PyProof.Rows PySem.Calls Mine
set_option maxRecDepth 100000
local macro_rules | `(tactic| walk_at "rho") => `(tactic| first | with_reducible assumption | with_reducible exact upd_self | ((refine (upd_ne (by decide)).trans ?_); walk_at "rho") | exact rfl | ((refine (chRho_free rfl).trans ?_); walk_at "rho"))
local macro_rules | `(tactic| walk_at "cells") => `(tactic| first | with_reducible assumption | exact chCells_cell rfl | ((refine chCells_free rfl ?_); walk_at "cells"))
local macro_rules | `(tactic| walk_at "alls") => `(tactic| first | exact True.intro | (refine And.intro ?_ ?_; walk_at "cells"; walk_at "alls"))
local macro_rules | `(tactic| walk_at "ld") => `(tactic| first | with_reducible assumption | exact ld_local rfl | exact ld_cell rfl | ((refine ld_free rfl ?_); walk_at "cells"))
local macro_rules | `(tactic| walk_at "cok") => `(tactic| (refine compOk_of rfl (by decide) ?_; walk_at "alls"))
local macro_rules | `(tactic| walk_at "st") => `(tactic| first | with_reducible assumption | exact st_local (by decide) rfl | exact st_cell rfl)
local macro_rules | `(tactic| walk_at "gl") => `(tactic| first | with_reducible assumption | exact gl_child rfl)
local macro_rules | `(tactic| walk_at "up") => `(tactic| first | with_reducible assumption | (refine Up.ext (by assumption) ?_; assumption))
local macro_rules | `(tactic| walk_at "bi") => `(tactic| first
  | (with_reducible refine biRange (by assumption) ?_ (by assumption) ?_; (walk_at "up"); (walk_at "gl"))
  | (with_reducible refine biLen (by assumption) ?_ (by assumption) ?_; (walk_at "up"); (walk_at "gl"))
  | (with_reducible refine biAbs (by assumption) ?_ (by assumption) ?_; (walk_at "up"); (walk_at "gl"))
  | (with_reducible refine biEnumerate (by assumption) ?_ (by assumption) ?_; (walk_at "up"); (walk_at "gl"))
  | (with_reducible refine biList (by assumption) ?_ (by assumption) ?_; (walk_at "up"); (walk_at "gl"))
  | (with_reducible refine biMin (by assumption) ?_ (by assumption) ?_; (walk_at "up"); (walk_at "gl"))
  | (with_reducible refine biSum (by assumption) ?_ (by assumption) ?_; (walk_at "up"); (walk_at "gl"))
  | (with_reducible refine biInt (by assumption) ?_ (by assumption) ?_; (walk_at "up"); (walk_at "gl")))
local macro_rules | `(tactic| walk_at "ev") => `(tactic| first
  | ((with_reducible show Ev _ _ (eval (Expr.Constant (Const.int _) _ _) _) _ _); exact Ev.intC)
  | with_reducible exact Ev.noneC
  | with_reducible exact Ev.boolC
  | ((with_reducible show Ev _ _ (eval (Expr.Name _ _) _) _ (IsI _)); exact Ev.nameI (by assumption) (by assumption) (by walk_at "ld") (by walk_at "rho") rfl rfl)
  | ((with_reducible show Ev _ _ (eval (Expr.Name _ _) _) _ (IsB _)); exact Ev.nameB (by assumption) (by assumption) (by walk_at "ld") (by walk_at "rho") rfl rfl)
  | ((with_reducible show Ev _ _ (eval (Expr.Name _ _) _) _ (IsV _)); exact Ev.name (by assumption) (by assumption) (by walk_at "ld") (by walk_at "rho") rfl rfl)
  | ((with_reducible show Ev _ _ (eval (Expr.BinOp _ Operator.Add _ _) _) _ _); refine Ev.add ?_ ?_ <;> walk_at "ev")
  | ((with_reducible show Ev _ _ (eval (Expr.BinOp _ Operator.Sub _ _) _) _ _); refine Ev.sub ?_ ?_ <;> walk_at "ev")
  | (with_reducible refine Ev.neg ?_ ; walk_at "ev")
  | ((with_reducible show Ev _ _ (eval (Expr.Call _ _ _ _) _) _ _); first | (refine Ev.range1 (by walk_at "bi") ?_ ; walk_at "ev") | (refine Ev.range2 (by walk_at "bi") ?_ ?_ <;> walk_at "ev")))
-- unit_rows
section
open PySem PySem.W PyProof.Rows PySem.Calls
set_option Elab.async false
set_option maxRecDepth 100000
set_option linter.unusedVariables false
set_option maxHeartbeats 1000000
namespace Mine
variable {w : World} {A : Around} {s : Shared} {hb : Heap}

theorem unit_rows_ev {n : Nat} {t : Tok} (a : Am (KK w) hb) (up : Up hb s) (hd : A.depth < 900) (hh : A.handled = none) (hn : n ≤ 100) :
    Ev (Mw w) A (call (.ref 19) [.int n t]) s (fun v s' => ∃ l r, v = .ref l ∧ Mx s'.heap l n n r (fun i j => if i = j then 1 else 0) ∧ ∀ b, Foot l n r b → s.heap.get? b = none) := by
  intro s₀ x0 Q q
  refine call_K1 (fa := 19) (binds := [(Str.ofString "n", .int n t)]) a (up.ext x0) (by show A.depth < 1000; (with_reducible exact Nat.lt_of_lt_of_le (by assumption) (by decide))) rfl rfl rfl rfl rfl rfl (by decide) rfl rfl ?_
  intro env s₁ hE N F X own
  have up1 := (up.ext x0).ext X
  have ln : ldOk env "n" = true := ld_of hE rfl
  have cn : HasC env "n" := hasC_of hE rfl
  have gr : env.kindOf "range" = some .globalImplicit := kd_of hE rfl
  have hh' : (A.deeper env).handled = none := hh
  clear hE
  refine Seq_wp (Ret_wp (Ev.compR (n := n) (m := n) (fun i j => if i = j then 1 else 0) hh' N F (by walk_at "cok") (ItEv.rangeN (lo := 0) (hi := n) (k := n) (by walk_at "ev") (by omega) (by decide) (by decide) (by (with_reducible exact Mine.castUp (by assumption) (by decide))) (by (with_reducible exact Mine.castLo (by decide)))) .N
    (fun C => tgN (by walk_at "st")) rfl (by (with_reducible exact Nat.le_trans (by assumption) (by decide))) ?_) ?_)
  · intro C i ρ₂ s₂ hi x2 zz6 F2 N2
    obtain ⟨v, ⟨t2, rfl⟩, rfl⟩ := zz6
    have up2 := up1.ext x2
    refine (Ev.compV (n := n) (fun j v => ∃ t, v = .int (if i = j then 1 else 0) t) hh' N2 F2 (by walk_at "cok") (ItEv.rangeN (lo := 0) (hi := n) (k := n) (by walk_at "ev") (by omega) (by decide) (by decide) (by (with_reducible exact Mine.castUp (by assumption) (by decide))) (by (with_reducible exact Mine.castLo (by decide)))) .N
      (fun C => tgN (by walk_at "st")) rfl (by (with_reducible exact Nat.le_trans (by assumption) (by decide))) ?_)
    intro C' j ρ₃ s₃ hj x3 zz6 F3 N3
    obtain ⟨v, ⟨t3, rfl⟩, rfl⟩ := zz6
    refine Ev.ite (c := ((0 + (i : Int)) == (0 + (j : Int)))) (.eq (by walk_at "ev") (by walk_at "ev")) (fun e => ?_) (fun e => ?_)
    · have : i = j := by simp at e; omega
      simp only [this, if_true]; exact Ev.intC
    · have : i ≠ j := by simp at e; omega
      simp only [this, if_false]; exact Ev.intC
  · intro v s' zz2 x2
    obtain ⟨l, r, rfl, hm, hf⟩ := zz2
    exact q _ _ ⟨l, r, rfl, hm, fun b hb => x0.2 b (X.2 b (hf b hb))⟩ (X.trans x2)


end Mine
end
-- least_spot
section
open PySem PySem.W PyProof.Rows PySem.Calls
set_option Elab.async false
set_option maxRecDepth 100000
set_option linter.unusedVariables false
set_option maxHeartbeats 1000000
namespace Mine
variable {w : World} {A : Around} {s : Shared} {hb : Heap}

noncomputable def lessOr (M : Nat → Nat → Int) : Option (Nat × Nat) → Nat × Nat → Bool
  | none, _ => true
  | some q, p => decide ((M p.1 p.2).natAbs < (M q.1 q.2).natAbs)
noncomputable def better (M : Nat → Nat → Int) (f : Option (Nat × Nat)) (p : Nat × Nat) : Option (Nat × Nat) :=
  if decide ((M p.1 p.2).natAbs > 0) && lessOr M f p then some p else f
noncomputable def scanRow (M : Nat → Nat → Int) (step i : Nat) : Nat → Option (Nat × Nat) → Option (Nat × Nat)
  | 0, f => f
  | k + 1, f => better M (scanRow M step i k f) (i, step + k)
noncomputable def scanAll (M : Nat → Nat → Int) (step m : Nat) : Nat → Option (Nat × Nat)
  | 0 => none
  | k + 1 => scanRow M step (step + k) m (scanAll M step m k)
noncomputable def IsSpot (h : Heap) (v : Value) : Option (Nat × Nat) → Prop
  | none => v = .none
  | some p => ∃ T t u, v = .ref T ∧ IsTup h T [Value.int p.1 t, Value.int p.2 u].toArray
noncomputable def InB (n : Nat) : Option (Nat × Nat) → Prop
  | none => True
  | some p => p.1 < n ∧ p.2 < n
theorem IsSpot.sys {env : Env} {ρ : Str → Option Value} {s s' : Shared} {v : Value} {f : Option (Nat × Nat)} (h : IsSpot s.heap v f) (F : Fm env s.heap ρ) (y : Sys env s s') : IsSpot s'.heap v f := by
  cases f with
  | none => exact h
  | some p => obtain ⟨T, t, u, e, ht⟩ := h; exact ⟨T, t, u, e, tup_sys ht F y⟩
theorem Sys.own {env : Env} {Z : Addr → Prop} {s s' : Shared} (c : Chg Z s s') (h : ∀ b, Z b → Own env b) : Sys env s s' := fun b o e n _ => c.1 b o e fun z => n (h b z)
theorem better_in {M n f p} (h : InB n f) (h1 : p.1 < n) (h2 : p.2 < n) : InB n (better M f p) := by
  unfold better; split
  · exact ⟨h1, h2⟩
  · exact h
theorem scanRow_in {M step i n} (hi : i < n) : ∀ {k f}, InB n f → step + k ≤ n → InB n (scanRow M step i k f)
  | 0, f, h, _ => h
  | k + 1, f, h, hk => better_in (scanRow_in hi h (by omega)) hi (by show step + k < n; omega)
theorem scanAll_in {M step m n} (hm : step + m ≤ n) : ∀ {k}, step + k ≤ n → InB n (scanAll M step m k)
  | 0, _ => trivial
  | k + 1, hk => scanRow_in (by omega) (scanAll_in hm (by omega)) hm

theorem least_spot_ev {l : Addr} {n p : Nat} {r : Nat → Addr} {M : Nat → Nat → Int} {t u : Tok} (a : Am (KK w) hb) (up : Up hb s) (hd : A.depth < 900) (hh : A.handled = none) (hn : n ≤ 100) (hp : p ≤ n)
    (hM : Mx s.heap l n n r M) :
    Ev (Mw w) A (call (.ref 26) [.ref l, .int p t, .int n u]) s (fun v s' => IsSpot s'.heap v (scanAll M p (n - p) (n - p))) := by
  intro s₀ x0 Q q
  refine call_K1 (fa := 26) (binds := [(Str.ofString "a", .ref l), (Str.ofString "step", .int p t), (Str.ofString "width", .int n u)]) a (up.ext x0) (by show A.depth < 1000; (with_reducible exact Nat.lt_of_lt_of_le (by assumption) (by decide))) rfl rfl rfl rfl rfl rfl (by decide) rfl rfl ?_
  intro env s₁ hE N F X own
  have up1 := (up.ext x0).ext X
  have l1 : ldOk env "a" = true := ld_of hE rfl
  have l2 : ldOk env "step" = true := ld_of hE rfl
  have l3 : ldOk env "width" = true := ld_of hE rfl
  have l4 : ldOk env "found" = true := ld_of hE rfl
  have l5 : ldOk env "row" = true := ld_of hE rfl
  have l6 : ldOk env "column" = true := ld_of hE rfl
  have l7 : ldOk env "size" = true := ld_of hE rfl
  have t4 : stOk env "found" = true := st_of hE rfl
  have t5 : stOk env "row" = true := st_of hE rfl
  have t6 : stOk env "column" = true := st_of hE rfl
  have t7 : stOk env "size" = true := st_of hE rfl
  have gr : env.kindOf "range" = some .globalImplicit := kd_of hE rfl
  have gl : env.kindOf "len" = some .globalImplicit := kd_of hE rfl
  have ga : env.kindOf "abs" = some .globalImplicit := kd_of hE rfl
  have hh' : (A.deeper env).handled = none := hh
  clear hE
  have M1 : Mx s₁.heap l n n r M := (hM.ext x0).ext X
  have ofOwn : ∀ s', Chg (Own env) s₁ s' → Mx s'.heap l n n r M ∧ Up hb s' := fun s' c =>
    ⟨M1.chg c fun b f => M1.notOwn F f, fun b o e => c.1 b o (up1 b o e) fun z => by
      have h1 := own b z
      rw [up.ext x0 b o e] at h1; cases h1⟩
  refine Seq_wp2 fun KK hKK => (AssignN_wp N F Ev.noneC t4 ?_)
  rintro v s₂ s₃ rfl x2 _ F3 c3
  refine hKK _ ?_
  have c3' : Chg (Own env) s₁ s₃ := c3.mono fun _ => TgA.own
  have M3 := (ofOwn s₃ c3').1
  have up3 := (ofOwn s₃ c3').2
  refine Seq_wp (For_wp (mods := Own env) (n := n - p) hh' N F3 (tgN t5) (ItEv.rangeN (lo := p) (hi := n) (k := n - p) (by refine Ev.range2 (by walk_at "bi") (by walk_at "ev") (Ev.lenC (by walk_at "bi") (by walk_at "ev") M3.outer (by (with_reducible exact Mine.castUp (by assumption) (by decide))))) (by omega) (by (with_reducible exact Mine.castLo (by decide))) (by omega) (by (with_reducible exact Mine.castUp (by assumption) (by decide))) (by (with_reducible exact Mine.castLo (by decide))))
    (fun _ h => h.elim) (fun b z => F3.exOwn z) (fun b z => z)
    (fun k ρ s' => ∃ v, ρ "a" = some (.ref l) ∧ ρ "step" = some (.int p t) ∧ ρ "width" = some (.int n u) ∧ ρ "found" = some v ∧ IsSpot s'.heap v (scanAll M p (n - p) k))
    ?_ (fun s' x => ⟨.none, by walk_at "rho", by walk_at "rho", by walk_at "rho", by walk_at "rho", rfl⟩) ?_ ?_)
  · intro k ρ s₄ s₅ zz4 _ F4 y
    obtain ⟨v, h1, h2, h3, h4, h5⟩ := zz4
    exact ⟨v, h1, h2, h3, h4, h5.sys F4 y⟩
  · intro k ρ₁ ρ₂ s₄ hk zz5 zz6 F4 c4
    obtain ⟨v, h1, h2, h3, h4, h5⟩ := zz5
    obtain ⟨_, ⟨t₁, rfl⟩, rfl⟩ := zz6
    have c4' := c3'.trans c4
    have up4 := (ofOwn s₄ c4').2
    have hin : InB n (scanAll M p (n - p) k) := scanAll_in (by omega) (by omega)
    refine Seq_wp (For_wp (mods := Own env) (n := n - p) hh' N F4 (tgN t6) (ItEv.rangeN (lo := p) (hi := n) (k := n - p) (by walk_at "ev") (by omega) (by (with_reducible exact Mine.castLo (by decide))) (by omega) (by (with_reducible exact Mine.castUp (by assumption) (by decide))) (by (with_reducible exact Mine.castLo (by decide))))
      (fun _ h => h.elim) (fun b z => F4.exOwn z) (fun b z => z)
      (fun j ρ s' => ∃ v, ρ "a" = some (.ref l) ∧ ρ "step" = some (.int p t) ∧ ρ "width" = some (.int n u) ∧ ρ "row" = some (.int (p + k) t₁) ∧ ρ "found" = some v ∧ IsSpot s'.heap v (scanRow M p (p + k) j (scanAll M p (n - p) k)))
      ?_ (fun s' x => ⟨v, by walk_at "rho", by walk_at "rho", by walk_at "rho", by walk_at "rho", by walk_at "rho", h5.sys F4 (Sys.own x fun _ h => h.elim)⟩) ?_ ?_)
    · intro k ρ s₄ s₅ zz4 _ F4 y
      obtain ⟨v, h1, h2, h3, h4, h5, h6⟩ := zz4
      exact ⟨v, h1, h2, h3, h4, h5, h6.sys F4 y⟩
    · intro j ρ₃ ρ₄ s₅ hj zz5 zz6 F5 c5
      obtain ⟨v', g1, g2, g3, g4, g5, g6⟩ := zz5
      obtain ⟨_, ⟨t₂, rfl⟩, rfl⟩ := zz6
      have c5' := c4'.trans c5
      have M5 := (ofOwn s₅ c5').1
      have up5 := (ofOwn s₅ c5').2
      refine Seq_wp2 fun KK hKK => (AssignN_wp (P := IsI (M (p + k) (p + j)).natAbs) N F5 (Ev.absC (by walk_at "bi") (Ev.mat (i := p + k) (j := p + j) (by walk_at "ev") M5 (by rw [Int.natCast_add]; walk_at "ev") (by rw [Int.natCast_add]; walk_at "ev") (by omega) (by omega) (by (with_reducible exact Nat.le_trans (by assumption) (by decide))) (by (with_reducible exact Nat.le_trans (by assumption) (by decide))))) t7 ?_)
      intro v₆ s₆ s₇ zz3 x6 c67 F7 c7
      obtain ⟨t₃, rfl⟩ := zz3
      refine hKK _ ?_
      have c7' : Chg (Own env) s₅ s₇ := c7.mono fun _ => TgA.own
      have M7 := (ofOwn s₇ (c5'.trans c7')).1
      have up7 := (ofOwn s₇ (c5'.trans c7')).2
      have g7 := g6.sys F5 (Sys.own c7' fun _ h => h)
      have hin' : InB n (scanRow M p (p + k) j (scanAll M p (n - p) k)) := scanRow_in (by omega) hin (by omega)
      generalize hf : scanRow M p (p + k) j (scanAll M p (n - p) k) = f at g7 hin'
      have hstep : scanRow M p (p + k) (j + 1) (scanAll M p (n - p) k) = better M f (p + k, p + j) := by rw [← hf]; rfl
      rw [hstep]
      refine Seq_wp (If_wp (c := decide ((M (p + k) (p + j)).natAbs > 0) && lessOr M f (p + k, p + j)) ?_ ?_ ?_)
      · refine Tst.and (Tst.gtN (by walk_at "ev") (by walk_at "ev")) fun _ => ?_
        cases f with
        | none =>
          cases g7
          exact Tst.or (b := true) (Tst.isNone (v := .none) (by walk_at "ev") (by walk_at "ev") rfl) (c := true) (fun h => nomatch h)
        | some qq =>
          obtain ⟨T, w1, w2, rfl, hT⟩ := g7
          refine Tst.or (b := false) (Tst.isNone (v := .ref T) (by walk_at "ev") (by walk_at "ev") rfl) (fun _ => ?_)
          refine Tst.ltN (by walk_at "ev") (Ev.absC (by walk_at "bi") (Ev.mat (i := qq.1) (j := qq.2) (by walk_at "ev") M7 ?_ ?_ hin'.1 hin'.2 (by (with_reducible exact Nat.le_trans (by assumption) (by decide))) (by (with_reducible exact Nat.le_trans (by assumption) (by decide)))))
          · exact (Ev.itemT (k := 0) (by walk_at "ev") (by exact Ev.intC) hT rfl (by decide)).imp fun v s' e _ => ⟨_, e⟩
          · exact (Ev.itemT (k := 1) (by walk_at "ev") (by exact Ev.intC) hT rfl (by decide)).imp fun v s' e _ => ⟨_, e⟩
      · intro hc s₈ x8
        have F8 := F7.ext x8
        refine Seq_wp2 fun KK hKK => (AssignN_wp N F8 (Ev.tuple (EvL.ints2 (a := p + k) (b := p + j) (by walk_at "ev") (by walk_at "ev")) ?_ ?_) t4 ?_)
        · (intro vs s' zz2; obtain ⟨t, u, rfl⟩ := zz2); simp
        · exact fun _ _ _ h _ => h
        intro v s₉ s₁₀ zz3 x9 c910 F10 c10
        obtain ⟨T, vs, rfl, hT, hT2, w1, w2, rfl⟩ := zz3
        refine hKK _ ?_
        have c10' : Chg (Own env) s₇ s₁₀ := x8.any.trans (c10.mono fun _ => TgA.own)
        refine wpAny_execs_nil (wpAny_execs_nil ⟨c7'.trans c10', _, F10, .ref T, by walk_at "rho", by walk_at "rho", by walk_at "rho", by walk_at "rho", by walk_at "rho", ?_⟩)
        unfold better
        rw [if_pos hc]
        exact ⟨T, w1, w2, rfl, by have := tup_sys hT2 (F8.ext x9) (Sys.own c910 fun _ => TgA.own); simpa using this⟩
      · intro hc s₈ x8
        refine wpAny_execs_nil (wpAny_execs_nil ⟨c7'.trans x8.any, _, F7.ext x8, v', by walk_at "rho", by walk_at "rho", by walk_at "rho", by walk_at "rho", by walk_at "rho", ?_⟩)
        unfold better
        rw [if_neg (by rw [hc]; exact Bool.false_ne_true)]
        exact g7.sys F7 (Sys.own x8 fun _ h => h.elim)
    · intro ρ₃ s₅ zz2 F5 c5
      obtain ⟨v', g1, g2, g3, g4, g5, g6⟩ := zz2
      exact wpAny_execs_nil ⟨c5, _, F5, v', g1, g2, g3, g5, g6⟩
  · intro ρ₁ s₄ zz2 F4 c4
    obtain ⟨v, h1, h2, h3, h4, h5⟩ := zz2
    refine Seq_wp (Ret_wp (P := fun v' s' => IsSpot s'.heap v' (scanAll M p (n - p) (n - p))) ((Ev.name F4 N l4 h4 rfl rfl).imp fun v' s' e x => by cases e; exact h5.sys F4 (Sys.own x fun _ h => h.elim)) ?_)
    rintro v' s₅ hv x5
    exact q _ _ hv (X.transE (c3'.trans (c4.trans x5.any)) fun b hb z => absurd (own b z) hb)


end Mine
end
-- swap_columns
section
open PySem PySem.W PyProof.Rows PySem.Calls
set_option Elab.async false
set_option maxRecDepth 100000
set_option linter.unusedVariables false
set_option maxHeartbeats 1000000
namespace Mine
variable {w : World} {A : Around} {s : Shared} {hb : Heap}

theorem swap_columns_wp {Q : Value → Shared → Prop} {l : Addr} {n m c₁ c₂ : Nat} {r : Nat → Addr} {M : Nat → Nat → Int} {t u : Tok} (a : Am (KK w) hb) (up : Up hb s) (hd : A.depth < 900) (hh : A.handled = none) (hn : n ≤ 100) (hm : m ≤ 100)
    (hM : Mx s.heap l n m r M) (h₁ : c₁ < m) (h₂ : c₂ < m)
    (q : ∀ s', Mx s'.heap l n m r (fun i j => M i (swp c₁ c₂ j)) → Chg (fun b => ∃ i, i < n ∧ b = r i) s s' → Q .none s') :
    wpAny (Mw w) A (call (.ref 33) [.ref l, .int c₁ t, .int c₂ u]) Q (fun _ _ => False) s := by
  refine call_K1 (fa := 33) (binds := [(Str.ofString "a", .ref l), (Str.ofString "one", .int c₁ t), (Str.ofString "other", .int c₂ u)]) a up (by show A.depth < 1000; (with_reducible exact Nat.lt_of_lt_of_le (by assumption) (by decide))) rfl rfl rfl rfl rfl rfl (by decide) rfl rfl ?_
  intro env s₁ hE N F X own
  have l1 : ldOk env "a" = true := ld_of hE rfl
  have l2 : ldOk env "one" = true := ld_of hE rfl
  have l3 : ldOk env "other" = true := ld_of hE rfl
  have l4 : ldOk env "row" = true := ld_of hE rfl
  have t4 : stOk env "row" = true := st_of hE rfl
  have hh' : (A.deeper env).handled = none := hh
  have M1 : Mx s₁.heap l n m r M := hM.ext X
  refine Seq_wp (For_wp (mods := fun b => Own env b ∨ ∃ i, i < n ∧ b = r i) (n := n) hh' N F (tgN t4) (ItEv.list (l := l) (by walk_at "ev") M1.outer)
    ?_ ?_ (fun b z => .inl z)
    (fun k ρ s' => ρ "one" = some (.int c₁ t) ∧ ρ "other" = some (.int c₂ u) ∧ Mx s'.heap l n m r (fun i j => if i < k then M i (swp c₁ c₂ j) else M i j))
    ?_ (fun s' x => ⟨by walk_at "rho", by walk_at "rho", (M1.ext x).congr fun i j _ _ => by simp⟩) ?_ ?_)
  · rintro b rfl (z | ⟨i, hi, e⟩)
    · exact M1.notOwn F (.inl rfl) z
    · exact M1.ne i hi e.symm
  · rintro b (z | ⟨i, hi, rfl⟩)
    · exact F.exOwn z
    · exact M1.exF (.inr ⟨i, hi, rfl⟩)
  · intro k ρ s₄ s₅ zz4 _ F4 y
    obtain ⟨h1, h2, h3⟩ := zz4
    exact ⟨h1, h2, h3.sys F4 y⟩
  · intro k ρ₁ ρ₂ s₄ hk zz5 zz6 F4 c4
    obtain ⟨h1, h2, h3⟩ := zz5
    obtain ⟨_, rfl, rfl⟩ := zz6
    have L4 : LI s₄.heap (r k) m (M k) := (h3.row k hk).imp fun j v hj h => by simpa using h
    refine Seq_wp (Assign2_wp (P := fun vs _ => ∃ t u, vs = [.int (M k c₂) t, .int (M k c₁) u]) hh' (.ints2 (a := M k c₂) (b := M k c₁) ?_ ?_)
      (by (intro vs s' zz2; obtain ⟨t, u, rfl⟩ := zz2); rfl) (fun _ _ _ h _ => h) (by rw [hE]; rfl) ?_)
    · exact Ev.item (k := (c₂ : Int)) (by walk_at "ev") (by walk_at "ev") L4 (by (with_reducible exact Int.natCast_nonneg _)) (by (with_reducible exact Int.ofNat_lt.2 (by assumption))) (by (with_reducible exact Mine.castUp (by assumption) (by decide)))
    · exact Ev.item (k := (c₁ : Int)) (by walk_at "ev") (by walk_at "ev") L4 (by (with_reducible exact Int.natCast_nonneg _)) (by (with_reducible exact Int.ofNat_lt.2 (by assumption))) (by (with_reducible exact Mine.castUp (by assumption) (by decide)))
    intro v₁ v₂ s₅ zz3 x5
    obtain ⟨t₁, t₂, e⟩ := zz3
    cases e
    have F5 := F4.ext x5
    refine asgItem_wp (by walk_at "ev") (by walk_at "ev") (L4.ext x5) (by (with_reducible exact Int.natCast_nonneg _)) (by (with_reducible exact Int.ofNat_lt.2 (by assumption))) (by (with_reducible exact Nat.le_trans (by assumption) (by decide))) ?_
    intro s₆ s₇ _ L7 _ c7
    have nO : ¬ Own env (r k) := (L4.ext x5).notOwn F5
    have F7 := F5.chg c7 fun b hb e => nO (e ▸ hb)
    refine asgItem_wp (by walk_at "ev") (by walk_at "ev") L7 (by (with_reducible exact Int.natCast_nonneg _)) (by (with_reducible exact Int.ofNat_lt.2 (by assumption))) (by (with_reducible exact Nat.le_trans (by assumption) (by decide))) ?_
    intro s₈ s₉ _ L9 _ c9
    have c49 : Chg (fun b => b = r k) s₄ s₉ := (Ext.any x5).trans (c7.trans c9)
    have L9' : LI s₉.heap (r k) m (fun j => M k (swp c₁ c₂ j)) := L9.imp fun j v hj h => by
      simp only [Int.toNat_natCast] at h
      dsimp only
      by_cases e2 : j = c₂
      · rw [if_pos e2] at h
        have : swp c₁ c₂ j = c₁ := by unfold swp; split <;> omega
        rw [this]; exact ⟨_, h⟩
      · rw [if_neg e2] at h
        by_cases e1 : j = c₁
        · rw [if_pos e1] at h
          have : swp c₁ c₂ j = c₂ := by unfold swp; rw [if_pos e1]
          rw [this]; exact ⟨_, h⟩
        · rw [if_neg e1] at h
          have : swp c₁ c₂ j = j := by unfold swp; rw [if_neg e1, if_neg e2]
          rw [this]; exact h
    refine wpAny_execs_nil ⟨c49.mono fun b e => .inr ⟨k, hk, e⟩, _, F4.chg c49 fun b hb e => nO (e ▸ hb), by walk_at "rho", by walk_at "rho", (h3.setRow hk c49 L9').congr fun i j hi hj => ?_⟩
    unfold setF
    by_cases e : i = k
    · subst e; simp
    · simp only [e, if_false]
      by_cases e2 : i < k
      · rw [if_pos e2, if_pos (by (with_reducible exact Nat.lt_succ_of_lt (by assumption)))]
      · rw [if_neg e2, if_neg (by omega)]
  · intro ρ₁ s₄ zz2 F4 c4
    obtain ⟨h1, h2, h3⟩ := zz2
    refine wpAny_execs_nil (q _ (h3.congr fun i j hi hj => by simp [hi]) ?_)
    exact (Ext.any X).transE c4 fun b hb z => z.elim (fun z => absurd (own b z) hb) id


end Mine
end
-- bring
section
open PySem PySem.W PyProof.Rows PySem.Calls
set_option Elab.async false
set_option maxRecDepth 100000
set_option linter.unusedVariables false
set_option maxHeartbeats 1000000
namespace Mine
variable {w : World} {A : Around} {s : Shared} {hb : Heap}

theorem bring_wp {Q : Value → Shared → Prop} {ls lu lv T : Addr} {n i j p : Nat} {rs ru rv : Nat → Addr} {S U V : Nat → Nat → Int} {t t₁ t₂ : Tok} (a : Am (KK w) hb) (up : Up hb s) (hd : A.depth < 800) (hh : A.handled = none) (hn : n ≤ 100)
    (hS : Mx s.heap ls n n rs S) (hU : Mx s.heap lu n n ru U) (hV : Mx s.heap lv n n rv V)
    (dsu : Dis (Foot ls n rs) (Foot lu n ru)) (dsv : Dis (Foot ls n rs) (Foot lv n rv)) (duv : Dis (Foot lu n ru) (Foot lv n rv))
    (nws : ∀ b, Foot ls n rs b → hb.get? b = none) (nwu : ∀ b, Foot lu n ru b → hb.get? b = none) (nwv : ∀ b, Foot lv n rv b → hb.get? b = none)
    (hT : IsTup s.heap T [Value.int i t₁, Value.int j t₂].toArray) (hi : i < n) (hj : j < n) (hp : p < n)
    (q : ∀ s', Mx s'.heap ls n n (fun k => rs (swp i p k)) (fun x y => S (swp i p x) (swp j p y)) → Mx s'.heap lu n n (fun k => ru (swp i p k)) (fun x y => U (swp i p x) y) →
      Mx s'.heap lv n n rv (fun x y => V x (swp j p y)) → Chg (fun b => Foot ls n rs b ∨ Foot lu n ru b ∨ Foot lv n rv b) s s' → Q .none s') :
    wpAny (Mw w) A (call (.ref 40) [.ref ls, .ref lu, .ref lv, .ref T, .int p t]) Q (fun _ _ => False) s := by
  refine call_K1 (fa := 40) (binds := [(Str.ofString "s", .ref ls), (Str.ofString "u", .ref lu), (Str.ofString "v", .ref lv), (Str.ofString "spot", .ref T), (Str.ofString "step", .int p t)]) a up (by show A.depth < 1000; (with_reducible exact Nat.lt_of_lt_of_le (by assumption) (by decide))) rfl rfl rfl rfl rfl rfl (by decide) rfl rfl ?_
  intro env s₁ hE N F X own
  have l1 : ldOk env "s" = true := ld_of hE rfl
  have l2 : ldOk env "u" = true := ld_of hE rfl
  have l3 : ldOk env "v" = true := ld_of hE rfl
  have l4 : ldOk env "spot" = true := ld_of hE rfl
  have l5 : ldOk env "step" = true := ld_of hE rfl
  have l6 : ldOk env "row" = true := ld_of hE rfl
  have l7 : ldOk env "column" = true := ld_of hE rfl
  have l8 : ldOk env "a" = true := ld_of hE rfl
  have t6 : stOk env "row" = true := st_of hE rfl
  have t7 : stOk env "column" = true := st_of hE rfl
  have t8 : stOk env "a" = true := st_of hE rfl
  have gs : env.kindOf "swap_columns" = some .globalImplicit := kd_of hE rfl
  have hh' : (A.deeper env).handled = none := hh
  have S1 := hS.ext X
  have U1 := hU.ext X
  have V1 := hV.ext X
  have nwO : ∀ b, Own env b → hb.get? b = none := fun b z => by
    cases e : hb.get? b with
    | none => rfl
    | some o => have := own b z; rw [up b o e] at this; cases this
  let Z : Addr → Prop := fun b => Own env b ∨ Foot ls n rs b ∨ Foot lu n ru b ∨ Foot lv n rv b
  have nwZ : ∀ b, Z b → hb.get? b = none := fun b z => z.elim (nwO b) fun z => z.elim (nws b) fun z => z.elim (nwu b) (nwv b)
  have hs1 : Chg Z s₁ s₁ := .refl
  refine Seq_wp2 fun KK hKK => (AssignP_wp hh' N F (T := T) (by walk_at "ev") (hT.keeps X.all) t6 t7 (by rw [hE]; rfl) ?_)
  intro s₂ F2 c2
  refine hKK _ ?_
  have c2Z : Chg Z s₁ s₂ := c2.mono fun b z => .inl z
  have S2 := S1.chg c2 fun b f => S1.notOwn F f
  have U2 := U1.chg c2 fun b f => U1.notOwn F f
  have V2 := V1.chg c2 fun b f => V1.notOwn F f
  have ups : ∀ {s'}, Chg Z s₁ s' → Up hb s' := fun c => (up.ext X).chg c nwZ
  have hexZ : ∀ b, Z b → s₂.heap.get? b ≠ none := fun b z => z.elim (fun z => F2.exOwn z) fun z => z.elim (fun z => S2.exF z) fun z => z.elim (fun z => U2.exF z) fun z => V2.exF z
  -- the rows of s and u
  refine Seq_wp (For2_wp (mods := Z) (v₀ := .ref ls) (v₁ := .ref lu) hh' N F2 t8 (Ev.tuple2 (by walk_at "ev") (by walk_at "ev")) hexZ (fun b z => .inl z)
    (fun ρ s' => (ρ "row" = some (.int i t₁) ∧ ρ "column" = some (.int j t₂) ∧ ρ "step" = some (.int p t) ∧ ρ "s" = some (.ref ls) ∧ ρ "v" = some (.ref lv)) ∧ Mx s'.heap ls n n rs S ∧ Mx s'.heap lu n n ru U ∧ Mx s'.heap lv n n rv V)
    (fun ρ s' => (ρ "row" = some (.int i t₁) ∧ ρ "column" = some (.int j t₂) ∧ ρ "step" = some (.int p t) ∧ ρ "s" = some (.ref ls) ∧ ρ "v" = some (.ref lv)) ∧ Mx s'.heap ls n n (fun k => rs (swp i p k)) (fun x => S (swp i p x)) ∧ Mx s'.heap lu n n ru U ∧ Mx s'.heap lv n n rv V)
    (fun ρ s' => (ρ "row" = some (.int i t₁) ∧ ρ "column" = some (.int j t₂) ∧ ρ "step" = some (.int p t) ∧ ρ "s" = some (.ref ls) ∧ ρ "v" = some (.ref lv)) ∧ Mx s'.heap ls n n (fun k => rs (swp i p k)) (fun x => S (swp i p x)) ∧ Mx s'.heap lu n n (fun k => ru (swp i p k)) (fun x => U (swp i p x)) ∧ Mx s'.heap lv n n rv V)
    ?_ (fun s' x => ⟨⟨by walk_at "rho", by walk_at "rho", by walk_at "rho", by walk_at "rho", by walk_at "rho"⟩, S2.ext x, U2.ext x, V2.ext x⟩) ?_ ?_ ?_)
  · exact fun ρ s₃ s₄ _ F3 y => ⟨fun ⟨h, a, b, c⟩ => ⟨h, a.sys F3 y, b.sys F3 y, c.sys F3 y⟩, fun ⟨h, a, b, c⟩ => ⟨h, a.sys F3 y, b.sys F3 y, c.sys F3 y⟩, fun ⟨h, a, b, c⟩ => ⟨h, a.sys F3 y, b.sys F3 y, c.sys F3 y⟩⟩
  · intro ρ s₃ zz2 F3 c3
    obtain ⟨⟨r1, r2, r3, r4, r5⟩, S3, U3, V3⟩ := zz2
    refine Seq_wp2 fun KK hKK => (SwapRows_wp hh' N F3 S3 l8 l6 l5 (by walk_at "rho") (by walk_at "rho") (by walk_at "rho") hi hp (by (with_reducible exact Nat.le_trans (by assumption) (by decide))) ?_ (by rw [hE]; rfl))
    intro s₄ S4 c4 F4
    refine hKK _ ?_
    refine wpAny_execs_nil ⟨rfl, c4.mono fun b e => .inr (.inl (.inl e)), _, F4, ⟨by walk_at "rho", by walk_at "rho", by walk_at "rho", by walk_at "rho", by walk_at "rho"⟩, S4,
      U3.chg c4 fun b f e => dsu b (.inl e) f, V3.chg c4 fun b f e => dsv b (.inl e) f⟩
  · intro ρ s₃ zz2 F3 c3
    obtain ⟨⟨r1, r2, r3, r4, r5⟩, S3, U3, V3⟩ := zz2
    refine Seq_wp2 fun KK hKK => (SwapRows_wp hh' N F3 U3 l8 l6 l5 (by walk_at "rho") (by walk_at "rho") (by walk_at "rho") hi hp (by (with_reducible exact Nat.le_trans (by assumption) (by decide))) ?_ (by rw [hE]; rfl))
    intro s₄ U4 c4 F4
    refine hKK _ ?_
    refine wpAny_execs_nil ⟨rfl, c4.mono fun b e => .inr (.inr (.inl (.inl e))), _, F4, ⟨by walk_at "rho", by walk_at "rho", by walk_at "rho", by walk_at "rho", by walk_at "rho"⟩,
      S3.chg c4 fun b f e => dsu b (Foot.swap hi hp f) (.inl e), U4, V3.chg c4 fun b f e => duv b (.inl e) f⟩
  intro ρ s₃ zz2 F3 c3
  obtain ⟨⟨r1, r2, r3, r4, r5⟩, S3, U3, V3⟩ := zz2
  have c3Z := c2Z.trans c3
  have hexZ3 : ∀ b, Z b → s₃.heap.get? b ≠ none := fun b z => c3.ex (hexZ b z)
  -- the columns of s and v
  refine Seq_wp (For2_wp (mods := Z) (v₀ := .ref ls) (v₁ := .ref lv) hh' N F3 t8 (Ev.tuple2 (by walk_at "ev") (by walk_at "ev")) hexZ3 (fun b z => .inl z)
    (fun ρ s' => (ρ "column" = some (.int j t₂) ∧ ρ "step" = some (.int p t)) ∧ Mx s'.heap ls n n (fun k => rs (swp i p k)) (fun x => S (swp i p x)) ∧ Mx s'.heap lu n n (fun k => ru (swp i p k)) (fun x => U (swp i p x)) ∧ Mx s'.heap lv n n rv V)
    (fun ρ s' => (ρ "column" = some (.int j t₂) ∧ ρ "step" = some (.int p t)) ∧ Mx s'.heap ls n n (fun k => rs (swp i p k)) (fun x y => S (swp i p x) (swp j p y)) ∧ Mx s'.heap lu n n (fun k => ru (swp i p k)) (fun x => U (swp i p x)) ∧ Mx s'.heap lv n n rv V)
    (fun ρ s' => (ρ "column" = some (.int j t₂) ∧ ρ "step" = some (.int p t)) ∧ Mx s'.heap ls n n (fun k => rs (swp i p k)) (fun x y => S (swp i p x) (swp j p y)) ∧ Mx s'.heap lu n n (fun k => ru (swp i p k)) (fun x => U (swp i p x)) ∧ Mx s'.heap lv n n rv (fun x y => V x (swp j p y)))
    ?_ (fun s' x => ⟨⟨r2, r3⟩, S3.ext x, U3.ext x, V3.ext x⟩) ?_ ?_ ?_)
  · exact fun ρ s₃ s₄ _ F3 y => ⟨fun ⟨h, a, b, c⟩ => ⟨h, a.sys F3 y, b.sys F3 y, c.sys F3 y⟩, fun ⟨h, a, b, c⟩ => ⟨h, a.sys F3 y, b.sys F3 y, c.sys F3 y⟩, fun ⟨h, a, b, c⟩ => ⟨h, a.sys F3 y, b.sys F3 y, c.sys F3 y⟩⟩
  · intro ρ s₄ zz2 F4 c4
    obtain ⟨⟨g1, g2⟩, S4, U4, V4⟩ := zz2
    have fr : ∀ b, (∃ k, k < n ∧ b = rs (swp i p k)) → Foot ls n rs b := fun b ⟨k, hk, e⟩ => Foot.swap hi hp (.inr ⟨k, hk, e⟩)
    refine Seq_wp (Expr_wp (callG_wp nm_swap_columns fn_swap_columns a (ups (c3Z.trans c4)) N gs (EvL.three (P := IsV (.ref ls)) (R := IsI j) (S := IsI p) (by walk_at "ev") (by walk_at "ev") (by walk_at "ev") IsV.mono IsI.mono IsI.mono) ?_) N.inter)
    intro vs s₅ zz2 x5
    obtain ⟨_, _, _, rfl, e1, ⟨w1, e2⟩, ⟨w2, e3⟩⟩ := zz2
    cases e1; subst e2 e3
    refine swap_columns_wp a ((ups (c3Z.trans c4)).ext x5) (by show A.depth + 1 < 900; omega) hh' hn hn (S4.ext x5) hj hp fun s₆ S6 c6 => ⟨rfl, ?_⟩
    have c46 : Chg (fun b => ∃ k, k < n ∧ b = rs (swp i p k)) s₄ s₆ := (Ext.any x5).trans c6
    exact wpAny_execs_nil ⟨rfl, c46.mono fun b e => .inr (.inl (fr b e)), _, F4.chg c46 fun b hb e => S4.notOwn F4 (.inr e) hb, ⟨by walk_at "rho", by walk_at "rho"⟩, S6,
      U4.chg c46 fun b f e => dsu b (fr b e) (Foot.swap hi hp f), V4.chg c46 fun b f e => dsv b (fr b e) f⟩
  · intro ρ s₄ zz2 F4 c4
    obtain ⟨⟨g1, g2⟩, S4, U4, V4⟩ := zz2
    refine Seq_wp (Expr_wp (callG_wp nm_swap_columns fn_swap_columns a (ups (c3Z.trans c4)) N gs (EvL.three (P := IsV (.ref lv)) (R := IsI j) (S := IsI p) (by walk_at "ev") (by walk_at "ev") (by walk_at "ev") IsV.mono IsI.mono IsI.mono) ?_) N.inter)
    intro vs s₅ zz2 x5
    obtain ⟨_, _, _, rfl, e1, ⟨w1, e2⟩, ⟨w2, e3⟩⟩ := zz2
    cases e1; subst e2 e3
    refine swap_columns_wp a ((ups (c3Z.trans c4)).ext x5) (by show A.depth + 1 < 900; omega) hh' hn hn (V4.ext x5) hj hp fun s₆ V6 c6 => ⟨rfl, ?_⟩
    have c46 : Chg (fun b => ∃ k, k < n ∧ b = rv k) s₄ s₆ := (Ext.any x5).trans c6
    exact wpAny_execs_nil ⟨rfl, c46.mono fun b e => .inr (.inr (.inr (.inr e))), _, F4.chg c46 fun b hb e => V4.notOwn F4 (.inr e) hb, ⟨by walk_at "rho", by walk_at "rho"⟩,
      S4.chg c46 fun b f e => dsv b (Foot.swap hi hp f) (.inr e), U4.chg c46 fun b f e => duv b (Foot.swap hi hp f) (.inr e), V6⟩
  intro ρ' s₄ zz2 F4 c4
  obtain ⟨_, S4, U4, V4⟩ := zz2
  refine wpAny_execs_nil (q s₄ S4 U4 V4 ?_)
  exact (Ext.any X).transE (c3Z.trans c4) fun b hb z => z.elim (fun z => absurd (own b z) hb) id


end Mine
end
-- clear_cross
section
open PySem PySem.W PyProof.Rows PySem.Calls
set_option Elab.async false
set_option maxRecDepth 100000
set_option linter.unusedVariables false
set_option maxHeartbeats 1000000
namespace Mine
variable {w : World} {A : Around} {s : Shared} {hb : Heap}

noncomputable def rowQ (S : Nat → Nat → Int) (p x : Nat) : Int := (S x p).fdiv (S p p)
noncomputable def colQ (S : Nat → Nat → Int) (p y : Nat) : Int := (S p y).fdiv (S p p)
noncomputable def RP (S M : Nat → Nat → Int) (p k : Nat) : Nat → Nat → Int := fun x y => if p < x ∧ x < p + 1 + k then M x y - rowQ S p x * M p y else M x y
noncomputable def CP (S M : Nat → Nat → Int) (p k : Nat) : Nat → Nat → Int := fun x y => if p < y ∧ y < p + 1 + k then M x y - colQ S p y * M x p else M x y
noncomputable def zrow (S : Nat → Nat → Int) (p k : Nat) : Bool := (List.range k).all fun i => S (p + 1 + i) p - rowQ S p (p + 1 + i) * S p p == 0
noncomputable def zcol (S : Nat → Nat → Int) (p k : Nat) : Bool := (List.range k).all fun i => S p (p + 1 + i) - colQ S p (p + 1 + i) * S p p == 0
theorem zrow_succ {S p k} : zrow S p (k + 1) = (zrow S p k && (S (p + 1 + k) p - rowQ S p (p + 1 + k) * S p p == 0)) := by simp [zrow, List.range_succ]
theorem zcol_succ {S p k} : zcol S p (k + 1) = (zcol S p k && (S p (p + 1 + k) - colQ S p (p + 1 + k) * S p p == 0)) := by simp [zcol, List.range_succ]
theorem RP_zero {S M p} : RP S M p 0 = M := by funext x y; unfold RP; rw [if_neg (by omega)]
theorem CP_zero {S M p} : CP S M p 0 = M := by funext x y; unfold CP; rw [if_neg (by omega)]
theorem RP_at {S M p k y} : RP S M p k p y = M p y := by unfold RP; rw [if_neg (by omega)]
theorem RP_new {S M p k y} : RP S M p k (p + 1 + k) y = M (p + 1 + k) y := by unfold RP; rw [if_neg (by omega)]
theorem RP_succ {S M p k} : RP S M p (k + 1) = setF (RP S M p k) (p + 1 + k) (fun y => M (p + 1 + k) y - rowQ S p (p + 1 + k) * M p y) := by
  funext x y
  unfold setF RP
  by_cases h : x = p + 1 + k
  · subst h; rw [if_pos (by omega), if_pos rfl]
  · rw [if_neg h]
    by_cases h2 : p < x ∧ x < p + 1 + k
    · rw [if_pos h2, if_pos (by omega)]
    · rw [if_neg h2, if_neg (by omega)]
theorem CP_at {S M p k x} : CP S M p k x p = M x p := by unfold CP; rw [if_neg (by omega)]
theorem CP_new {S M p k x} : CP S M p k x (p + 1 + k) = M x (p + 1 + k) := by unfold CP; rw [if_neg (by omega)]
theorem CP_succ {S M p k x y} : CP S M p (k + 1) x y = if y = p + 1 + k then M x (p + 1 + k) - colQ S p (p + 1 + k) * M x p else CP S M p k x y := by
  unfold CP
  by_cases h : y = p + 1 + k
  · subst h; rw [if_pos (by omega), if_pos rfl]
  · rw [if_neg h]
    by_cases h2 : p < y ∧ y < p + 1 + k
    · rw [if_pos h2, if_pos (by omega)]
    · rw [if_neg h2, if_neg (by omega)]
theorem clear_cross_wp {Q : Value → Shared → Prop} {ls lu lv : Addr} {n p : Nat} {rs ru rv : Nat → Addr} {S U V : Nat → Nat → Int} {t t₂ : Tok} (a : Am (KK w) hb) (up : Up hb s) (hd : A.depth < 800) (hh : A.handled = none) (hn : n ≤ 100)
    (hS : Mx s.heap ls n n rs S) (hU : Mx s.heap lu n n ru U) (hV : Mx s.heap lv n n rv V)
    (dsu : Dis (Foot ls n rs) (Foot lu n ru)) (dsv : Dis (Foot ls n rs) (Foot lv n rv)) (duv : Dis (Foot lu n ru) (Foot lv n rv))
    (nws : ∀ b, Foot ls n rs b → hb.get? b = none) (nwu : ∀ b, Foot lu n ru b → hb.get? b = none) (nwv : ∀ b, Foot lv n rv b → hb.get? b = none)
    (hp : p < n) (hL : S p p ≠ 0) (hrow : ∀ x, x < n → (S x p).natAbs < 2 ^ 63) (hcol : ∀ y, y < n → (S p y).natAbs < 2 ^ 63)
    (q : ∀ s' rs' ru' rv', Mx s'.heap ls n n rs' (CP S (RP S S p (n - (p + 1))) p (n - (p + 1))) → Mx s'.heap lu n n ru' (RP S U p (n - (p + 1))) → Mx s'.heap lv n n rv' (CP S V p (n - (p + 1))) →
      Grow s (Foot ls n rs) (Foot ls n rs') → Grow s (Foot lu n ru) (Foot lu n ru') → Grow s (Foot lv n rv) (Foot lv n rv') → Dis (Foot ls n rs') (Foot lu n ru') → Dis (Foot ls n rs') (Foot lv n rv') → Dis (Foot lu n ru') (Foot lv n rv') →
      Chg (fun b => Foot ls n rs b ∨ Foot lu n ru b ∨ Foot lv n rv b) s s' → Q (.bool (zrow S p (n - (p + 1)) && zcol S p (n - (p + 1)))) s') :
    wpAny (Mw w) A (call (.ref 45) [.ref ls, .ref lu, .ref lv, .int p t, .int n t₂]) Q (fun _ _ => False) s := by
  refine call_K1 (fa := 45) (binds := [(Str.ofString "s", .ref ls), (Str.ofString "u", .ref lu), (Str.ofString "v", .ref lv), (Str.ofString "step", .int p t), (Str.ofString "width", .int n t₂)]) a up (by show A.depth < 1000; (with_reducible exact Nat.lt_of_lt_of_le (by assumption) (by decide))) rfl rfl rfl rfl rfl rfl (by decide) rfl rfl ?_
  intro env s₁ hE N F X own
  have l1 : ldOk env "s" = true := ld_of hE rfl
  have l2 : ldOk env "u" = true := ld_of hE rfl
  have l3 : ldOk env "v" = true := ld_of hE rfl
  have l4 : ldOk env "step" = true := ld_of hE rfl
  have l5 : ldOk env "width" = true := ld_of hE rfl
  have l6 : ldOk env "lead" = true := ld_of hE rfl
  have l7 : ldOk env "is_done" = true := ld_of hE rfl
  have l8 : ldOk env "row" = true := ld_of hE rfl
  have l9 : ldOk env "many" = true := ld_of hE rfl
  have l10 : ldOk env "a" = true := ld_of hE rfl
  have l11 : ldOk env "column" = true := ld_of hE rfl
  have c1 : HasC env "step" := hasC_of hE rfl
  have c2 : HasC env "many" := hasC_of hE rfl
  have c3 : HasC env "a" := hasC_of hE rfl
  have t6 : stOk env "lead" = true := st_of hE rfl
  have t7 : stOk env "is_done" = true := st_of hE rfl
  have t8 : stOk env "row" = true := st_of hE rfl
  have t9 : stOk env "many" = true := st_of hE rfl
  have t10 : stOk env "a" = true := st_of hE rfl
  have t11 : stOk env "column" = true := st_of hE rfl
  have gr : env.kindOf "range" = some .globalImplicit := kd_of hE rfl
  have gl : env.kindOf "len" = some .globalImplicit := kd_of hE rfl
  have ge : env.kindOf "enumerate" = some .globalImplicit := kd_of hE rfl
  have hh' : (A.deeper env).handled = none := hh
  have S1 := hS.ext X
  have U1 := hU.ext X
  have V1 := hV.ext X
  have nwO : ∀ b, Own env b → hb.get? b = none := fun b z => by
    cases e : hb.get? b with
    | none => rfl
    | some o => have := own b z; rw [up b o e] at this; cases this
  let Z : Addr → Prop := fun b => Own env b ∨ Foot ls n rs b ∨ Foot lu n ru b ∨ Foot lv n rv b
  have nwZ : ∀ b, Z b → hb.get? b = none := fun b z => z.elim (nwO b) fun z => z.elim (nws b) fun z => z.elim (nwu b) (nwv b)
  have ups : ∀ {s'}, Chg Z s₁ s' → Up hb s' := fun c => (up.ext X).chg c nwZ
  -- lead, is_done
  refine Seq_wp2 fun KK hKK => (Assign2s_wp hh' N F (EvL.two (P := IsI (S p p)) (R := IsB true) (Ev.mat (i := p) (j := p) (by walk_at "ev") S1 (by walk_at "ev") (by walk_at "ev") hp hp (by (with_reducible exact Nat.le_trans (by assumption) (by decide))) (by (with_reducible exact Nat.le_trans (by assumption) (by decide)))) (by walk_at "ev") IsI.mono IsB.mono)
    (by (intro vs s' zz2; obtain ⟨_, _, rfl, _⟩ := zz2); rfl) (fun _ _ _ h _ => h) t6 t7 (by rw [hE]; rfl) ?_)
  intro v₁ v₂ s₂ s₃ zz4 x2 c23 F3 c13
  obtain ⟨_, _, e, ⟨tl, e1⟩, e2⟩ := zz4
  refine hKK _ ?_
  cases e; subst e1; cases e2
  have S3 := S1.chg c13 fun b f => S1.notOwn F f
  have U3 := U1.chg c13 fun b f => U1.notOwn F f
  have V3 := V1.chg c13 fun b f => V1.notOwn F f
  have c3Z : Chg Z s₁ s₃ := c13.mono fun b z => .inl z
  have up3 := ups c3Z
  -- the rows
  let Z₁ : Addr → Prop := fun b => Own env b ∨ Foot ls n rs b ∨ Foot lu n ru b
  have hZ1 : ∀ b, Z₁ b → Z b := fun b z => z.imp id fun z => z.imp id .inl
  have hex1 : ∀ b, Z₁ b → s₃.heap.get? b ≠ none := fun b z => z.elim (fun z => F3.exOwn z) fun z => z.elim (fun z => S3.exF z) fun z => U3.exF z
  have hVZ1 : ∀ b, Foot lv n rv b → ¬ Z₁ b := fun b f z => z.elim (fun z => V1.notOwn F f z) fun z => z.elim (fun e => dsv b e f) fun e => duv b e f
  refine Seq_wp (For_wp' (mods := Z₁) (n := n - (p + 1)) hh' N F3 (tgN t8) (ItEv.rangeN (lo := (p : Int) + 1) (hi := n) (k := n - (p + 1)) (Ev.range2 (by walk_at "bi") (Ev.add (by walk_at "ev") (by walk_at "ev")) (Ev.lenC (by walk_at "bi") (by walk_at "ev") S3.outer (by (with_reducible exact Mine.castUp (by assumption) (by decide))))) (by omega) (by omega) (by omega) (by (with_reducible exact Mine.castUp (by assumption) (by decide))) (by (with_reducible exact Mine.castLo (by decide))))
    (fun _ h => h.elim) (fun _ h => h.elim) hex1 (fun b z => .inl z)
    (fun k ρ s' => (ρ "s" = some (.ref ls) ∧ ρ "u" = some (.ref lu) ∧ ρ "v" = some (.ref lv) ∧ ρ "step" = some (.int p t) ∧ ρ "width" = some (.int n t₂) ∧ ρ "lead" = some (.int (S p p) tl) ∧ ρ "is_done" = some (.bool (zrow S p k))) ∧
      ∃ rs' ru', Mx s'.heap ls n n rs' (RP S S p k) ∧ Mx s'.heap lu n n ru' (RP S U p k) ∧ Grow s₃ (Foot ls n rs) (Foot ls n rs') ∧ Grow s₃ (Foot lu n ru) (Foot lu n ru') ∧ Dis (Foot ls n rs') (Foot lu n ru'))
    ?_ (fun s' x => ⟨⟨by walk_at "rho", by walk_at "rho", by walk_at "rho", by walk_at "rho", by walk_at "rho", by walk_at "rho", by walk_at "rho"⟩, rs, ru, by rw [RP_zero]; exact S3.ext x, by rw [RP_zero]; exact U3.ext x, .refl, .refl, dsu⟩) ?_ ?_)
  · intro k ρ s₄ s₅ zz4 _ F4 y
    obtain ⟨h, rs', ru', hS4, hU4, g1, g2, d⟩ := zz4
    exact ⟨h, rs', ru', hS4.sys F4 y, hU4.sys F4 y, g1, g2, d⟩
  · intro k ρ₁ ρ₂ s₄ hk zz5 zz6 F4 c34
    obtain ⟨⟨h1, h2, h3, h4, h5, h6, h7⟩, rs', ru', S4, U4, g1, g2, d4⟩ := zz5
    obtain ⟨_, ⟨tk, rfl⟩, rfl⟩ := zz6
    have up4 := ups (c3Z.trans (c34.mono hZ1))
    have ex : ((p : Int) + 1 + k) = ((p + 1 + k : Nat) : Int) := by omega
    rw [ex] at F4
    have hx : p + 1 + k < n := by omega
    have hqb : (rowQ S p (p + 1 + k)).natAbs < 2 ^ 63 := Nat.lt_of_le_of_lt fdiv_abs (hrow _ hx)
    -- many
    refine Seq_wp2 fun KK hKK => (AssignN_wp (P := IsI (rowQ S p (p + 1 + k))) N F4 ?_ t9 ?_)
    · refine Ev.castI (Ev.fdiv (a := RP S S p k (p + 1 + k) p) (b := S p p) (Ev.mat (i := p + 1 + k) (j := p) (by walk_at "ev") S4 (by walk_at "ev") (by walk_at "ev") hx hp (by (with_reducible exact Nat.le_trans (by assumption) (by decide))) (by (with_reducible exact Nat.le_trans (by assumption) (by decide)))) (by walk_at "ev") hL (noPy (hrow p hp))) ?_
      rw [RP_new]; rfl
    intro v₅ s₅ s₆ zz3 x5 _ F6 c46
    obtain ⟨tm, rfl⟩ := zz3
    refine hKK _ ?_
    have c46' : Chg (Own env) s₄ s₆ := c46.mono fun _ => TgA.own
    have S6 := S4.chg c46' fun b f => S4.notOwn F4 f
    have U6 := U4.chg c46' fun b f => U4.notOwn F4 f
    have c36 := c34.trans (c46'.mono fun b z => .inl z)
    -- the two matrices
    let T : (Nat → Nat → Int) → Nat → Nat → Int := fun M => setF M (p + 1 + k) (fun y => M (p + 1 + k) y - rowQ S p (p + 1 + k) * M p y)
    have hT : ∀ M, T (RP S M p k) = RP S M p (k + 1) := fun M => by
      rw [RP_succ]; simp only [T, RP_new, RP_at]
    refine Seq_wp (For2M_wp T hh' N F6 t10 (Ev.tuple2 (by walk_at "ev") (by walk_at "ev")) S6 U6 d4
      (fun ρ => ρ "s" = some (.ref ls) ∧ ρ "u" = some (.ref lu) ∧ ρ "v" = some (.ref lv) ∧ ρ "step" = some (.int p t) ∧ ρ "width" = some (.int n t₂) ∧ ρ "lead" = some (.int (S p p) tl) ∧ ρ "is_done" = some (.bool (zrow S p k)) ∧ ρ "row" = some (.int ((p + 1 + k : Nat) : Int) tk) ∧ ρ "many" = some (.int (rowQ S p (p + 1 + k)) tm))
      ⟨by walk_at "rho", by walk_at "rho", by walk_at "rho", by walk_at "rho", by walk_at "rho", by walk_at "rho", by walk_at "rho", by walk_at "rho", by walk_at "rho"⟩ ?_ ?_)
    · intro l r M ρ₇ s₇ Q' _ M7 zz8 F7 c67 k7
      obtain ⟨j1, j2, j3, j4, j5, j6, j7, j8, j9⟩ := zz8
      have c37 : Chg Z₁ s₃ s₇ := c36.transE c67 fun b hb z => z.imp id fun z => z.imp (fun z => (g1 b z).resolve_right hb) (fun z => (g2 b z).resolve_right hb)
      have up7 := ups (c3Z.trans (c37.mono hZ1))
      refine Seq_wp (PutRow_wp (k := p + 1 + k) (f := fun y => M (p + 1 + k) y - rowQ S p (p + 1 + k) * M p y) M7 ?_ (by walk_at "ev") (by walk_at "ev") hx (by (with_reducible exact Nat.le_trans (by assumption) (by decide))) ?_)
      · refine Ev.compV (n := n) (fun y v => ∃ t, v = .int (M (p + 1 + k) y - rowQ S p (p + 1 + k) * M p y) t) hh' N F7 (by walk_at "cok") (ItEv.enum (P := fun y v => ∃ t, v = .int (M (p + 1 + k) y) t) (l := r (p + 1 + k)) hh' (by walk_at "bi") ?_ (M7.row _ hx)) .E
          (fun C => tgE (by walk_at "st") (by walk_at "st")) rfl (by (with_reducible exact Nat.le_trans (by assumption) (by decide))) ?_
        · exact Ev.item (k := ((p + 1 + k : Nat) : Int)) (by walk_at "ev") (by walk_at "ev") M7.outer (by (with_reducible exact Int.natCast_nonneg _)) (by (with_reducible exact Int.ofNat_lt.2 (by assumption))) (by (with_reducible exact Mine.castUp (by assumption) (by decide)))
        · intro C y ρ₈ s₈ hy x8 zz6 F8 N8
          obtain ⟨v, ty, ⟨tv, rfl⟩, rfl⟩ := zz6
          exact Ev.sub (by walk_at "ev") (Ev.mul (by walk_at "ev") (Ev.mat (i := p) (j := y) (by walk_at "ev") (M7.ext x8) (by walk_at "ev") (by walk_at "ev") hp hy (by (with_reducible exact Nat.le_trans (by assumption) (by decide))) (by (with_reducible exact Nat.le_trans (by assumption) (by decide)))) (mulOk_l hqb))
      · intro s₈ D M8 hD c78
        have nO : ¬ Own env l := M7.notOwn F7 (.inl rfl)
        refine wpAny_execs_nil (k7 s₈ _ _ M8 ⟨by walk_at "rho", by walk_at "rho", by walk_at "rho", by walk_at "rho", by walk_at "rho", by walk_at "rho", by walk_at "rho", by walk_at "rho", by walk_at "rho"⟩ (F7.chg c78 fun b hb e => nO (e ▸ hb)) (c78.mono fun b e => .inr (.inl e)) ?_)
        exact fun b f => f.put.imp id fun e => by rw [e]; exact hD
    · intro s₇ ρ₇ rs₇ ru₇ S7 U7 zz6 F7 c67 g17 g27 d7
      obtain ⟨j1, j2, j3, j4, j5, j6, j7, j8, j9⟩ := zz6
      rw [hT] at S7 U7
      have c47 : Chg Z₁ s₃ s₇ := c36.transE c67 fun b hb z => z.imp id fun z => z.imp (fun z => (g1 b z).resolve_right hb) (fun z => (g2 b z).resolve_right hb)
      have c47' : Chg (fun b => Z₁ b ∨ (s₃.heap.get? b = none ∧ SeqAt s₄ b)) s₄ s₇ := by
        refine (c46'.mono fun b z => .inl (.inl z)).transE c67 fun b hb z => ?_
        rcases z with z | z | z
        · exact .inl (.inl z)
        · exact (g1 b z).elim (fun z => .inl (.inr (.inl z))) fun h => .inr ⟨h, S4.seqF z⟩
        · exact (g2 b z).elim (fun z => .inl (.inr (.inr z))) fun h => .inr ⟨h, U4.seqF z⟩
      have up7 := ups (c3Z.trans (c47.mono hZ1))
      -- is_done
      refine Seq_wp2 fun KK hKK => (AssignN_wp (P := IsB (zrow S p (k + 1))) N F7 ?_ t7 ?_)
      · rw [zrow_succ]
        refine Ev.andB (by walk_at "ev") fun _ => ?_
        have e : RP S S p (k + 1) (p + 1 + k) p = S (p + 1 + k) p - rowQ S p (p + 1 + k) * S p p := by rw [RP_succ]; simp [setF]
        rw [← e]
        exact Ev.eqI (Ev.mat (i := p + 1 + k) (j := p) (by walk_at "ev") S7 (by walk_at "ev") (by walk_at "ev") hx hp (by (with_reducible exact Nat.le_trans (by assumption) (by decide))) (by (with_reducible exact Nat.le_trans (by assumption) (by decide)))) (by walk_at "ev")
      rintro v₈ s₈ s₉ rfl x8 _ F9 c79
      refine hKK _ ?_
      have c79' : Chg (Own env) s₇ s₉ := c79.mono fun _ => TgA.own
      refine wpAny_execs_nil ⟨c47'.trans (c79'.mono fun b z => .inl (.inl z)), _, F9, ⟨by walk_at "rho", by walk_at "rho", by walk_at "rho", by walk_at "rho", by walk_at "rho", by walk_at "rho", by walk_at "rho"⟩, rs₇, ru₇,
        S7.chg c79' fun b f => S7.notOwn F7 f, U7.chg c79' fun b f => U7.notOwn F7 f, g1.trans c36 g17, g2.trans c36 g27, d7⟩
  intro ρ₄ s₄ zz2 F4 c34
  obtain ⟨⟨h1, h2, h3, h4, h5, h6, h7⟩, rs', ru', S4, U4, g1, g2, d4⟩ := zz2
  have V4 := V3.chg c34 hVZ1
  have c14 : Chg Z s₁ s₄ := c3Z.trans (c34.mono hZ1)
  have up4 := ups c14
  have dsv4 : Dis (Foot ls n rs') (Foot lv n rv) := g1.dis dsv fun b f => V3.exF f
  have duv4 : Dis (Foot lu n ru') (Foot lv n rv) := g2.dis duv fun b f => V3.exF f
  -- the columns
  let Z₂ : Addr → Prop := fun b => Own env b ∨ Foot ls n rs' b ∨ Foot lv n rv b
  have hex2 : ∀ b, Z₂ b → s₄.heap.get? b ≠ none := fun b z => z.elim (fun z => F4.exOwn z) fun z => z.elim (fun z => S4.exF z) fun z => V4.exF z
  have hZ2 : ∀ {s'}, Chg Z₂ s₄ s' → Chg Z s₁ s' := fun c => c14.transE c fun b hb z => by
    rcases z with z | z | z
    · exact .inl z
    · exact .inr (.inl ((g1 b z).resolve_right (c3Z.ex hb)))
    · exact .inr (.inr (.inr z))
  have hUZ2 : ∀ b, Foot lu n ru' b → ¬ Z₂ b := fun b f z => z.elim (fun z => U4.notOwn F4 f z) fun z => z.elim (fun e => d4 b e f) fun e => duv4 b f e
  refine Seq_wp (For_wp' (mods := Z₂) (n := n - (p + 1)) hh' N F4 (tgN t11) (ItEv.rangeN (lo := (p : Int) + 1) (hi := n) (k := n - (p + 1)) (by walk_at "ev") (by omega) (by omega) (by omega) (by (with_reducible exact Mine.castUp (by assumption) (by decide))) (by (with_reducible exact Mine.castLo (by decide))))
    (fun _ h => h.elim) (fun _ h => h.elim) hex2 (fun b z => .inl z)
    (fun k ρ s' => (ρ "s" = some (.ref ls) ∧ ρ "v" = some (.ref lv) ∧ ρ "step" = some (.int p t) ∧ ρ "lead" = some (.int (S p p) tl) ∧ ρ "is_done" = some (.bool (zrow S p (n - (p + 1)) && zcol S p k))) ∧
      ∃ rs₅ rv₅, Mx s'.heap ls n n rs₅ (CP S (RP S S p (n - (p + 1))) p k) ∧ Mx s'.heap lv n n rv₅ (CP S V p k) ∧ Grow s₄ (Foot ls n rs') (Foot ls n rs₅) ∧ Grow s₄ (Foot lv n rv) (Foot lv n rv₅) ∧ Dis (Foot ls n rs₅) (Foot lv n rv₅))
    ?_ (fun s' x => ⟨⟨h1, h3, h4, h6, by rw [h7]; simp [zcol]⟩, rs', rv, by rw [CP_zero]; exact S4.ext x, by rw [CP_zero]; exact V4.ext x, .refl, .refl, dsv4⟩) ?_ ?_)
  · intro k ρ s₅ s₆ zz4 _ F5 y
    obtain ⟨h, r, r', a, b, c⟩ := zz4
    exact ⟨h, r, r', a.sys F5 y, b.sys F5 y, c⟩
  · intro k ρ₅ ρ₆ s₅ hk zz5 zz6 F5 c45
    obtain ⟨⟨j1, j2, j3, j4, j5⟩, rs₅, rv₅, S5, V5, g15, g25, d5⟩ := zz5
    obtain ⟨_, ⟨tk, rfl⟩, rfl⟩ := zz6
    have up5 := ups (hZ2 c45)
    have ex : ((p : Int) + 1 + k) = ((p + 1 + k : Nat) : Int) := by omega
    rw [ex] at F5
    have hy : p + 1 + k < n := by omega
    have hqb : (colQ S p (p + 1 + k)).natAbs < 2 ^ 63 := Nat.lt_of_le_of_lt fdiv_abs (hcol _ hy)
    refine Seq_wp2 fun KK hKK => (AssignN_wp (P := IsI (colQ S p (p + 1 + k))) N F5 ?_ t9 ?_)
    · refine Ev.castI (Ev.fdiv (a := CP S (RP S S p (n - (p + 1))) p k p (p + 1 + k)) (b := S p p) (Ev.mat (i := p) (j := p + 1 + k) (by walk_at "ev") S5 (by walk_at "ev") (by walk_at "ev") hp hy (by (with_reducible exact Nat.le_trans (by assumption) (by decide))) (by (with_reducible exact Nat.le_trans (by assumption) (by decide)))) (by walk_at "ev") hL (noPy (hrow p hp))) ?_
      rw [CP_new, RP_at]; rfl
    intro v₆ s₆ s₇ zz3 x6 _ F7 c57
    obtain ⟨tm, rfl⟩ := zz3
    refine hKK _ ?_
    have c57' : Chg (Own env) s₅ s₇ := c57.mono fun _ => TgA.own
    have S7 := S5.chg c57' fun b f => S5.notOwn F5 f
    have V7 := V5.chg c57' fun b f => V5.notOwn F5 f
    have c47 := c45.trans (c57'.mono fun b z => .inl z)
    let T : (Nat → Nat → Int) → Nat → Nat → Int := fun M x y => if y = p + 1 + k then M x (p + 1 + k) - colQ S p (p + 1 + k) * M x p else M x y
    have hT : ∀ M, T (CP S M p k) = CP S M p (k + 1) := fun M => by
      funext x y; rw [CP_succ]; simp only [T, CP_new, CP_at]
    refine Seq_wp (For2M_wp T hh' N F7 t10 (Ev.tuple2 (by walk_at "ev") (by walk_at "ev")) S7 V7 d5
      (fun ρ => ρ "s" = some (.ref ls) ∧ ρ "v" = some (.ref lv) ∧ ρ "step" = some (.int p t) ∧ ρ "lead" = some (.int (S p p) tl) ∧ ρ "is_done" = some (.bool (zrow S p (n - (p + 1)) && zcol S p k)) ∧ ρ "column" = some (.int ((p + 1 + k : Nat) : Int) tk) ∧ ρ "many" = some (.int (colQ S p (p + 1 + k)) tm))
      ⟨by walk_at "rho", by walk_at "rho", by walk_at "rho", by walk_at "rho", by walk_at "rho", by walk_at "rho", by walk_at "rho"⟩ ?_ ?_)
    · intro l r M ρ₈ s₈ Q' _ M8 zz8 F8 c78 k8
      obtain ⟨i1, i2, i3, i4, i5, i6, i7⟩ := zz8
      refine Seq_wp (For_wp (mods := fun b => Own env b ∨ ∃ i, i < n ∧ b = r i) (n := n) hh' N F8 (tgN t8) (ItEv.list (l := l) (by walk_at "ev") M8.outer)
        ?_ ?_ (fun b z => .inl z)
        (fun i ρ s' => (ρ "s" = some (.ref ls) ∧ ρ "v" = some (.ref lv) ∧ ρ "step" = some (.int p t) ∧ ρ "lead" = some (.int (S p p) tl) ∧ ρ "is_done" = some (.bool (zrow S p (n - (p + 1)) && zcol S p k)) ∧ ρ "column" = some (.int ((p + 1 + k : Nat) : Int) tk) ∧ ρ "many" = some (.int (colQ S p (p + 1 + k)) tm)) ∧
          Mx s'.heap l n n r (fun x y => if x < i then T M x y else M x y))
        ?_ (fun s' x => ⟨⟨by walk_at "rho", by walk_at "rho", by walk_at "rho", by walk_at "rho", by walk_at "rho", by walk_at "rho", by walk_at "rho"⟩, (M8.ext x).congr fun i j _ _ => by simp⟩) ?_ ?_)
      · rintro b rfl (z | ⟨i, hi, e⟩)
        · exact M8.notOwn F8 (.inl rfl) z
        · exact M8.ne i hi e.symm
      · rintro b (z | ⟨i, hi, rfl⟩)
        · exact F8.exOwn z
        · exact M8.exF (.inr ⟨i, hi, rfl⟩)
      · intro i ρ s₉ s₁₀ zz4 _ F9 y
        obtain ⟨h, a⟩ := zz4
        exact ⟨h, a.sys F9 y⟩
      · intro i ρ₉ ρ₁₀ s₉ hi zz5 zz6 F9 c89
        obtain ⟨⟨i1, i2, i3, i4, i5, i6, i7⟩, M9⟩ := zz5
        obtain ⟨_, rfl, rfl⟩ := zz6
        have L9 : LI s₉.heap (r i) n (M i) := (M9.row i hi).imp fun j v hj h => by simpa using h
        refine Seq_wp2 fun KK hKK => (AsgSub_wp (R := IsI (M i (p + 1 + k) - colQ S p (p + 1 + k) * M i p)) ?_ (by walk_at "ev") (by walk_at "ev") L9 (by (with_reducible exact Int.natCast_nonneg _)) (by (with_reducible exact Int.ofNat_lt.2 (by assumption))) (by (with_reducible exact Nat.le_trans (by assumption) (by decide))) ?_)
        · exact Ev.sub (Ev.item (k := ((p + 1 + k : Nat) : Int)) (by walk_at "ev") (by walk_at "ev") L9 (by (with_reducible exact Int.natCast_nonneg _)) (by (with_reducible exact Int.ofNat_lt.2 (by assumption))) (by (with_reducible exact Mine.castUp (by assumption) (by decide))))
            (Ev.mul (by walk_at "ev") (Ev.item (k := (p : Int)) (by walk_at "ev") (by walk_at "ev") L9 (by (with_reducible exact Int.natCast_nonneg _)) (by (with_reducible exact Int.ofNat_lt.2 (by assumption))) (by (with_reducible exact Mine.castUp (by assumption) (by decide)))) (mulOk_l hqb))
        intro v₁₀ s₁₀ s₁₁ s₁₂ zz4 _ _ L12 _ c912
        obtain ⟨tv, rfl⟩ := zz4
        refine hKK _ ?_
        have nO : ¬ Own env (r i) := L9.notOwn F9
        have L12' : LI s₁₂.heap (r i) n (T M i) := L12.imp fun j v hj h => by
          simp only [Int.toNat_natCast] at h
          simp only [T]
          by_cases e2 : j = p + 1 + k
          · rw [if_pos e2] at h; rw [if_pos e2]; exact ⟨_, h⟩
          · rw [if_neg e2] at h; rw [if_neg e2]; exact h
        refine wpAny_execs_nil ⟨c912.mono fun b e => .inr ⟨i, hi, e⟩, _, F9.chg c912 fun b hb e => nO (e ▸ hb), ⟨by walk_at "rho", by walk_at "rho", by walk_at "rho", by walk_at "rho", by walk_at "rho", by walk_at "rho", by walk_at "rho"⟩,
          (M9.setRow hi c912 L12').congr fun x y hx hy' => ?_⟩
        unfold setF
        by_cases e : x = i
        · subst e; simp
        · simp only [e, if_false]
          by_cases e2 : x < i
          · rw [if_pos e2, if_pos (by (with_reducible exact Nat.lt_succ_of_lt (by assumption)))]
          · rw [if_neg e2, if_neg (by omega)]
      · intro ρ₉ s₉ zz2 F9 c89
        obtain ⟨hR, M9⟩ := zz2
        refine wpAny_execs_nil (k8 s₉ ρ₉ r (M9.congr fun x y hx hy' => by rw [if_pos hx]) hR F9 (c89.mono fun b z => z.imp id fun ⟨i, hi, e⟩ => .inr ⟨i, hi, e⟩) .refl)
    · intro s₈ ρ₈ rs₈ rv₈ S8 V8 zz6 F8 c78 g18 g28 d8
      obtain ⟨i1, i2, i3, i4, i5, i6, i7⟩ := zz6
      rw [hT] at S8 V8
      have c58 : Chg (fun b => Z₂ b ∨ (s₄.heap.get? b = none ∧ SeqAt s₅ b)) s₅ s₈ := by
        refine (c57'.mono fun b z => .inl (.inl z)).transE c78 fun b hb z => ?_
        rcases z with z | z | z
        · exact .inl (.inl z)
        · exact (g15 b z).elim (fun z => .inl (.inr (.inl z))) fun h => .inr ⟨h, S5.seqF z⟩
        · exact (g25 b z).elim (fun z => .inl (.inr (.inr z))) fun h => .inr ⟨h, V5.seqF z⟩
      have c48 : Chg Z₂ s₄ s₈ := c45.transE c58 fun b hb z => z.elim id fun z => absurd z.1 hb
      have up8 := ups (hZ2 c48)
      refine Seq_wp2 fun KK hKK => (AssignN_wp (P := IsB (zrow S p (n - (p + 1)) && zcol S p (k + 1))) N F8 ?_ t7 ?_)
      · rw [zcol_succ, ← Bool.and_assoc]
        refine Ev.andB (by walk_at "ev") fun _ => ?_
        have e : CP S (RP S S p (n - (p + 1))) p (k + 1) p (p + 1 + k) = S p (p + 1 + k) - colQ S p (p + 1 + k) * S p p := by rw [CP_succ, if_pos rfl, RP_at, RP_at]
        rw [← e]
        exact Ev.eqI (Ev.mat (i := p) (j := p + 1 + k) (by walk_at "ev") S8 (by walk_at "ev") (by walk_at "ev") hp hy (by (with_reducible exact Nat.le_trans (by assumption) (by decide))) (by (with_reducible exact Nat.le_trans (by assumption) (by decide)))) (by walk_at "ev")
      rintro v₉ s₉ s₁₀ rfl x9 _ F10 c810
      refine hKK _ ?_
      have c810' : Chg (Own env) s₈ s₁₀ := c810.mono fun _ => TgA.own
      refine wpAny_execs_nil ⟨c58.trans (c810'.mono fun b z => .inl (.inl z)), _, F10, ⟨by walk_at "rho", by walk_at "rho", by walk_at "rho", by walk_at "rho", by walk_at "rho"⟩, rs₈, rv₈,
        S8.chg c810' fun b f => S8.notOwn F8 f, V8.chg c810' fun b f => V8.notOwn F8 f, g15.trans c47 g18, g25.trans c47 g28, d8⟩
  intro ρ₅ s₅ zz2 F5 c45
  obtain ⟨⟨j1, j2, j3, j4, j5⟩, rs₅, rv₅, S5, V5, g15, g25, d5⟩ := zz2
  have U5 := U4.chg c45 hUZ2
  have c15 := hZ2 c45
  have gS : Grow s₁ (Foot ls n rs) (Foot ls n rs₅) := (g1.up c3Z).trans c14 g15
  have gU : Grow s₁ (Foot lu n ru) (Foot lu n ru') := g2.up c3Z
  have gV : Grow s₁ (Foot lv n rv) (Foot lv n rv₅) := g25.up c14
  refine Seq_wp (Ret_wp (P := IsB (zrow S p (n - (p + 1)) && zcol S p (n - (p + 1)))) (by walk_at "ev") ?_)
  rintro v s₆ rfl x6
  refine q s₆ rs₅ ru' rv₅ (S5.ext x6) (U5.ext x6) (V5.ext x6) (gS.up X) (gU.up X) (gV.up X) (g15.dis d4 fun b f => U4.exF f) d5 (g25.dis duv4.symm fun b f => U4.exF f).symm ?_
  exact (Ext.any X).transE (c15.trans (Ext.any x6)) fun b hb z => z.elim (fun z => absurd (own b z) hb) id


end Mine
end
-- undivided_row
section
open PySem PySem.W PyProof.Rows PySem.Calls
set_option Elab.async false
set_option maxRecDepth 100000
set_option linter.unusedVariables false
set_option maxHeartbeats 1000000
namespace Mine
variable {w : World} {A : Around} {s : Shared} {hb : Heap}

noncomputable def undiv (S : Nat → Nat → Int) (p m x : Nat) : Bool := !((List.range m).filter fun j => (S x (p + 1 + j)).fmod (S p p) != 0).isEmpty
noncomputable def firstU (S : Nat → Nat → Int) (p m : Nat) : Nat → Option Nat
  | 0 => none
  | k + 1 => (firstU S p m k).or (if undiv S p m (p + 1 + k) then some (p + 1 + k) else none)
theorem firstU_some {S p m k x} (h : firstU S p m k = some x) : ∀ d, firstU S p m (k + d) = some x
  | 0 => h
  | d + 1 => by show (firstU S p m (k + d)).or _ = some x; rw [firstU_some h d]; rfl
noncomputable def IsOpt (v : Value) : Option Nat → Prop
  | none => v = .none
  | some x => ∃ t, v = .int x t
theorem undivided_row_ev {l : Addr} {n p : Nat} {r : Nat → Addr} {S : Nat → Nat → Int} {t u : Tok} (a : Am (KK w) hb) (up : Up hb s) (hd : A.depth < 900) (hu : A.units < 9000) (hh : A.handled = none) (hn : n ≤ 100) (hp : p < n)
    (hM : Mx s.heap l n n r S) (hL : S p p ≠ 0) :
    Ev (Mw w) A (call (.ref 50) [.ref l, .int p t, .int n u]) s (fun v s' => IsOpt v (firstU S p (n - (p + 1)) (n - (p + 1)))) := by
  intro s₀ x0 Q q
  refine call_K1 (fa := 50) (binds := [(Str.ofString "s", .ref l), (Str.ofString "step", .int p t), (Str.ofString "width", .int n u)]) a (up.ext x0) (by show A.depth < 1000; (with_reducible exact Nat.lt_of_lt_of_le (by assumption) (by decide))) rfl rfl rfl rfl rfl rfl (by decide) rfl rfl ?_
  intro env s₁ hE N F X own
  have up1 := (up.ext x0).ext X
  have l1 : ldOk env "s" = true := ld_of hE rfl
  have l2 : ldOk env "step" = true := ld_of hE rfl
  have l3 : ldOk env "width" = true := ld_of hE rfl
  have l4 : ldOk env "row" = true := ld_of hE rfl
  have t4 : stOk env "row" = true := st_of hE rfl
  have c1 : HasC env "s" := hasC_of hE rfl
  have c2 : HasC env "step" := hasC_of hE rfl
  have c4 : HasC env "row" := hasC_of hE rfl
  have gr : env.kindOf "range" = some .globalImplicit := kd_of hE rfl
  have gl : env.kindOf "len" = some .globalImplicit := kd_of hE rfl
  have hh' : (A.deeper env).handled = none := hh
  clear hE
  have M1 : Mx s₁.heap l n n r S := (hM.ext x0).ext X
  have ofOwn : ∀ s', Chg (Own env) s₁ s' → Mx s'.heap l n n r S ∧ Up hb s' := fun s' c =>
    ⟨M1.chg c fun b f => M1.notOwn F f, fun b o e => c.1 b o (up1 b o e) fun z => by
      have h1 := own b z
      rw [up.ext x0 b o e] at h1; cases h1⟩
  refine Seq_wp (For_wp (mods := Own env) (n := n - (p + 1)) hh' N F (tgN t4) (ItEv.rangeN (lo := (p : Int) + 1) (hi := n) (k := n - (p + 1)) (Ev.range2 (by walk_at "bi") (Ev.add (by walk_at "ev") (by walk_at "ev")) (Ev.lenC (by walk_at "bi") (by walk_at "ev") M1.outer (by (with_reducible exact Mine.castUp (by assumption) (by decide))))) (by omega) (by omega) (by omega) (by (with_reducible exact Mine.castUp (by assumption) (by decide))) (by (with_reducible exact Mine.castLo (by decide))))
    (fun _ h => h.elim) (fun b z => F.exOwn z) (fun b z => z)
    (fun k ρ s' => firstU S p (n - (p + 1)) k = none ∧ ρ "s" = some (.ref l) ∧ ρ "step" = some (.int p t) ∧ ρ "width" = some (.int n u))
    ?_ (fun s' x => ⟨rfl, by walk_at "rho", by walk_at "rho", by walk_at "rho"⟩) ?_ ?_)
  · exact fun k ρ s₄ s₅ h _ F4 y => h
  · intro k ρ₁ ρ₂ s₄ hk zz5 zz6 F4 c4'
    obtain ⟨h0, h1, h2, h3⟩ := zz5
    obtain ⟨_, ⟨t₁, rfl⟩, rfl⟩ := zz6
    have M4 := (ofOwn s₄ c4').1
    have up4 := (ofOwn s₄ c4').2
    have ex : ((p : Int) + 1 + k) = ((p + 1 + k : Nat) : Int) := by omega
    rw [ex] at F4
    refine Seq_wp (If_wp (c := undiv S p (n - (p + 1)) (p + 1 + k)) ?_ ?_ ?_)
    · have e : undiv S p (n - (p + 1)) (p + 1 + k) = !decide (((List.range (n - (p + 1))).filter fun j => (S (p + 1 + k) (p + 1 + j)).fmod (S p p) != 0).map (fun _ => (1 : Int)) = []) := by
        unfold undiv
        cases (List.range (n - (p + 1))).filter fun j => (S (p + 1 + k) (p + 1 + j)).fmod (S p p) != 0 <;> simp
      rw [e]
      refine Tst.neL ?_ (Ev.nilL.imp fun v s' ⟨a, e, _, h⟩ _ => by subst e; exact nilLN h) (by show A.units + 3 + 64 < 9900; omega)
      refine (Ev.compF (n := n - (p + 1)) (fun j => (S (p + 1 + k) (p + 1 + j)).fmod (S p p) != 0) (fun _ v => ∃ t, v = .int 1 t) hh' N F4 (by walk_at "cok")
        (ItEv.rangeN (lo := (p : Int) + 1) (hi := n) (k := n - (p + 1)) (Ev.range2 (by walk_at "bi") (Ev.add (by walk_at "ev") (by walk_at "ev")) (by walk_at "ev")) (by omega) (by omega) (by omega) (by (with_reducible exact Mine.castUp (by assumption) (by decide))) (by (with_reducible exact Mine.castLo (by decide)))) .N
        (fun C => tgN (by walk_at "st")) rfl (by omega) ?_).imp ?_
      · intro C j ρ₈ s₈ hj x8 zz6 F8 N8
        obtain ⟨_, ⟨tv, rfl⟩, rfl⟩ := zz6
        have ey : ((p : Int) + 1 + j) = ((p + 1 + j : Nat) : Int) := by omega
        rw [ey] at F8
        refine ⟨Tst.ne (Ev.fmod (Ev.mat (i := p + 1 + k) (j := p + 1 + j) (by walk_at "ev") (M4.ext x8) (by walk_at "ev") (by walk_at "ev") (by omega) (by omega) (by (with_reducible exact Nat.le_trans (by assumption) (by decide))) (by (with_reducible exact Nat.le_trans (by assumption) (by decide)))) (Ev.mat (i := p) (j := p) (by walk_at "ev") (M4.ext x8) (by walk_at "ev") (by walk_at "ev") (by (with_reducible assumption)) (by (with_reducible assumption)) (by (with_reducible exact Nat.le_trans (by assumption) (by decide))) (by (with_reducible exact Nat.le_trans (by assumption) (by decide)))) hL) (by walk_at "ev"), fun _ => ?_⟩
        exact Ev.intC
      · intro v s' zz2 _
        obtain ⟨D, ys, rfl, _, hl, hp⟩ := zz2
        exact ⟨D, ys, rfl, hl, paired_ints (fun _ _ h => h) hp⟩
    · intro hc s₈ x8
      refine Seq_wp (Ret_wp (P := IsI ((p + 1 + k : Nat) : Int)) (by have F8 := F4.ext x8; walk_at "ev") ?_)
      intro v s₉ zz2 x9
      obtain ⟨tv, rfl⟩ := zz2
      refine ⟨x8.any.trans x9.any, ?_⟩
      have e : firstU S p (n - (p + 1)) (n - (p + 1)) = some (p + 1 + k) := by
        have e1 : firstU S p (n - (p + 1)) (k + 1) = some (p + 1 + k) := by
          show (firstU _ _ _ _).or _ = _
          rw [h0, hc]; rfl
        have e2 := firstU_some e1 (n - (p + 1) - (k + 1))
        rwa [show k + 1 + (n - (p + 1) - (k + 1)) = n - (p + 1) from by omega] at e2
      rw [e] at q
      refine q _ _ ⟨tv, rfl⟩ (X.transE (c4'.trans (x8.any.trans x9.any)) fun b hb z => absurd (own b z) hb)
    · intro hc s₈ x8
      refine wpAny_execs_nil (wpAny_execs_nil ⟨x8.any, _, F4.ext x8, ?_, by walk_at "rho", by walk_at "rho", by walk_at "rho"⟩)
      show (firstU _ _ _ _).or _ = none
      rw [h0, hc]; rfl
  · intro ρ₁ s₄ zz2 F4 c4
    obtain ⟨h0, h1, h2, h3⟩ := zz2
    refine Seq_wp (Ret_wp (P := IsV .none) (by walk_at "ev") ?_)
    rintro v' s₅ rfl x5
    rw [h0] at q
    exact q _ _ rfl (X.transE (c4.trans x5.any) fun b hb z => absurd (own b z) hb)


end Mine
end
-- smith_form
section
open PySem PySem.W PyProof.Rows PySem.Calls
set_option Elab.async false
set_option maxRecDepth 100000
set_option linter.unusedVariables false
set_option maxHeartbeats 1000000
namespace Mine
variable {w : World} {A : Around} {s : Shared} {hb : Heap}

noncomputable def cellB (S : Nat → Nat → Int) (n p : Nat) : Prop := (∀ x, x < n → (S x p).natAbs < 2 ^ 63) ∧ ∀ y, y < n → (S p y).natAbs < 2 ^ 63
noncomputable def brg (S : Nat → Nat → Int) (i j p : Nat) : Nat → Nat → Int := fun x y => S (swp i p x) (swp j p y)
noncomputable def clr (n : Nat) (S : Nat → Nat → Int) (p : Nat) : Nat → Nat → Int := CP S (RP S S p (n - (p + 1))) p (n - (p + 1))
noncomputable def isDone (n : Nat) (S : Nat → Nat → Int) (p : Nat) : Bool := zrow S p (n - (p + 1)) && zcol S p (n - (p + 1))
noncomputable def addR (S : Nat → Nat → Int) (x p : Nat) : Nat → Nat → Int := setF S p (fun y => S p y + S x y)
noncomputable def negR (S : Nat → Nat → Int) (p : Nat) : Nat → Nat → Int := setF S p (fun y => - S p y)
/-- the loop of smith_form, with the sizes it stays under; k: what is left of it -/
inductive Run (n : Nat) (R : Nat → Nat → Int) : Nat → (Nat → Nat → Int) → Nat → Prop
  | fin {k S p} : n ≤ p → S = R → Run n R k S p
  | zero {k S p} : p < n → scanAll S p (n - p) (n - p) = none → S = R → Run n R k S p
  | pass {k S p i j} : p < n → scanAll S p (n - p) (n - p) = some (i, j) → cellB (brg S i j p) n p → isDone n (brg S i j p) p = false →
      Run n R k (clr n (brg S i j p) p) p → Run n R (k + 1) S p
  | add {k S p i j x} : p < n → scanAll S p (n - p) (n - p) = some (i, j) → cellB (brg S i j p) n p → isDone n (brg S i j p) p = true →
      firstU (clr n (brg S i j p) p) p (n - (p + 1)) (n - (p + 1)) = some x → Run n R k (addR (clr n (brg S i j p) p) x p) p → Run n R (k + 1) S p
  | next {k S p i j} : p < n → scanAll S p (n - p) (n - p) = some (i, j) → cellB (brg S i j p) n p → isDone n (brg S i j p) p = true →
      firstU (clr n (brg S i j p) p) p (n - (p + 1)) (n - (p + 1)) = none →
      Run n R k (if clr n (brg S i j p) p p p < 0 then negR (clr n (brg S i j p) p) p else clr n (brg S i j p) p) (p + 1) → Run n R (k + 1) S p
theorem Run.cases' {n k p : Nat} {R S : Nat → Nat → Int} {i j : Nat} (hp : p < n) (hs : scanAll S p (n - p) (n - p) = some (i, j)) (r : Run n R k S p) : cellB (brg S i j p) n p ∧
    (isDone n (brg S i j p) p = false → ∃ k', k' < k ∧ Run n R k' (clr n (brg S i j p) p) p) ∧
    (isDone n (brg S i j p) p = true → ∀ x, firstU (clr n (brg S i j p) p) p (n - (p + 1)) (n - (p + 1)) = some x → ∃ k', k' < k ∧ Run n R k' (addR (clr n (brg S i j p) p) x p) p) ∧
    (isDone n (brg S i j p) p = true → firstU (clr n (brg S i j p) p) p (n - (p + 1)) (n - (p + 1)) = none → ∃ k', k' < k ∧ Run n R k' (if clr n (brg S i j p) p p p < 0 then negR (clr n (brg S i j p) p) p else clr n (brg S i j p) p) (p + 1)) := by
  cases r with
  | fin h => exact absurd hp (Nat.not_lt.2 h)
  | zero h e => rw [hs] at e; cases e
  | pass h e b d r => rw [hs] at e; cases e; exact ⟨b, fun _ => ⟨_, Nat.lt_succ_self _, r⟩, fun z => absurd (z.symm.trans d) (by decide), fun z => absurd (z.symm.trans d) (by decide)⟩
  | add h e b d f r => rw [hs] at e; cases e; exact ⟨b, fun z => absurd (z.symm.trans d) (by decide), fun _ x z => by rw [f] at z; cases z; exact ⟨_, Nat.lt_succ_self _, r⟩, fun _ z => absurd (z.symm.trans f) (by simp)⟩
  | next h e b d f r => rw [hs] at e; cases e; exact ⟨b, fun z => absurd (z.symm.trans d) (by decide), fun _ x z => absurd (z.symm.trans f) (by simp), fun _ _ => ⟨_, Nat.lt_succ_self _, r⟩⟩
theorem Run.none' {n k p : Nat} {R S : Nat → Nat → Int} (hs : p < n → scanAll S p (n - p) (n - p) = none) (r : Run n R k S p) : S = R := by
  cases r with
  | fin h e => exact e
  | zero h _ e => exact e
  | pass h e => rw [hs h] at e; cases e
  | add h e => rw [hs h] at e; cases e
  | next h e => rw [hs h] at e; cases e
theorem better_ne {S f p} (h : ∀ q, f = some q → S q.1 q.2 ≠ 0) : ∀ q, better S f p = some q → S q.1 q.2 ≠ 0 := by
  intro q e
  unfold better at e
  split at e
  · rename_i c
    cases e
    simp only [Bool.and_eq_true, decide_eq_true_eq] at c
    intro z; rw [z] at c; simp at c
  · exact h q e
theorem scanRow_ne {S step i} : ∀ {k f}, (∀ q, f = some q → S q.1 q.2 ≠ 0) → ∀ q, scanRow S step i k f = some q → S q.1 q.2 ≠ 0
  | 0, _, h => h
  | _ + 1, _, h => better_ne (scanRow_ne h)
theorem scanAll_ne {S step m} : ∀ {k} q, scanAll S step m k = some q → S q.1 q.2 ≠ 0
  | 0 => fun q e => by cases e
  | _ + 1 => scanRow_ne scanAll_ne
theorem brg_pp {S i j p} : brg S i j p p p = S i j := by
  unfold brg swp
  by_cases h : p = i
  · subst h
    by_cases h2 : p = j
    · subst h2; simp
    · simp [h2]
  · by_cases h2 : p = j
    · subst h2; simp [h]
    · simp [h, h2]
theorem clr_pp {n S p} : clr n S p p p = S p p := by unfold clr; rw [CP_at, RP_at]
theorem firstU_lt {S p m} : ∀ {k x}, firstU S p m k = some x → p < x ∧ x < p + 1 + k
  | 0, x, h => by cases h
  | k + 1, x, h => by
    unfold firstU at h
    cases e : firstU S p m k with
    | some y => rw [e] at h; have := firstU_lt e; cases h; omega
    | none =>
      rw [e] at h
      simp at h
      omega
/-- what stands at the head of the loop -/
inductive SJ (env : Env) (s₁ : Shared) (n : Nat) (R : Nat → Nat → Int) (ls lu lv : Addr) (tw : Tok) (k : Nat) (s' : Shared) : Prop
  | mk (p : Nat) (S U V : Nat → Nat → Int) (rs ru rv : Nat → Addr) (t : Tok) (ρ : Str → Option Value) (h1 : Run n R k S p) (h2 : p ≤ n) (h3 : Fm env s'.heap ρ) (h4 : ρ "s" = some (.ref ls)) (h5 : ρ "u" = some (.ref lu)) (h6 : ρ "v" = some (.ref lv))
    (h7 : ρ "step" = some (.int p t)) (h8 : ρ "width" = some (.int n tw)) (h9 : Mx s'.heap ls n n rs S) (h10 : Mx s'.heap lu n n ru U) (h11 : Mx s'.heap lv n n rv V) (h12 : Dis (Foot ls n rs) (Foot lu n ru)) (h13 : Dis (Foot ls n rs) (Foot lv n rv))
    (h14 : Dis (Foot lu n ru) (Foot lv n rv)) (h15 : ∀ b, Foot ls n rs b → s₁.heap.get? b = none) (h16 : ∀ b, Foot lu n ru b → s₁.heap.get? b = none) (h17 : ∀ b, Foot lv n rv b → s₁.heap.get? b = none) (h18 : Chg (Own env) s₁ s')
theorem smith_form_ev {l : Addr} {n : Nat} {r : Nat → Addr} {S R : Nat → Nat → Int} {tw : Tok} {K : Nat} (a : Am (KK w) hb) (up : Up hb s) (hd : A.depth < 700) (hu : A.units < 8000) (hh : A.handled = none) (hn : n ≤ 100)
    (hM : Mx s.heap l n n r S) (hR : Run n R K S 0) :
    Ev (Mw w) A (call (.ref 55) [.ref l, .int n tw]) s (fun v s' => ∃ T ls rs lu lv, v = .ref T ∧ IsTup s'.heap T [Value.ref ls, .ref lu, .ref lv].toArray ∧ Mx s'.heap ls n n rs R) := by
  intro s₀ x0 Q q
  refine call_K1 (fa := 55) (binds := [(Str.ofString "a", .ref l), (Str.ofString "width", .int n tw)]) a (up.ext x0) (by show A.depth < 1000; (with_reducible exact Nat.lt_of_lt_of_le (by assumption) (by decide))) rfl rfl rfl rfl rfl rfl (by decide) rfl rfl ?_
  intro env s₁ hE N F X own
  have up1 := (up.ext x0).ext X
  have l1 : ldOk env "a" = true := ld_of hE rfl
  have l2 : ldOk env "width" = true := ld_of hE rfl
  have l3 : ldOk env "s" = true := ld_of hE rfl
  have l4 : ldOk env "u" = true := ld_of hE rfl
  have l5 : ldOk env "v" = true := ld_of hE rfl
  have l6 : ldOk env "step" = true := ld_of hE rfl
  have l7 : ldOk env "spot" = true := ld_of hE rfl
  have l8 : ldOk env "row" = true := ld_of hE rfl
  have l9 : ldOk env "b" = true := ld_of hE rfl
  have t3 : stOk env "s" = true := st_of hE rfl
  have t4 : stOk env "u" = true := st_of hE rfl
  have t5 : stOk env "v" = true := st_of hE rfl
  have t6 : stOk env "step" = true := st_of hE rfl
  have t7 : stOk env "spot" = true := st_of hE rfl
  have t8 : stOk env "row" = true := st_of hE rfl
  have t9 : stOk env "b" = true := st_of hE rfl
  have c8 : HasC env "row" := hasC_of hE rfl
  have c9 : HasC env "b" := hasC_of hE rfl
  have gl : env.kindOf "len" = some .globalImplicit := kd_of hE rfl
  have ge : env.kindOf "enumerate" = some .globalImplicit := kd_of hE rfl
  have gm : env.kindOf "min" = some .globalImplicit := kd_of hE rfl
  have g1 : env.kindOf "unit_rows" = some .globalImplicit := kd_of hE rfl
  have g2 : env.kindOf "least_spot" = some .globalImplicit := kd_of hE rfl
  have g3 : env.kindOf "bring" = some .globalImplicit := kd_of hE rfl
  have g4 : env.kindOf "clear_cross" = some .globalImplicit := kd_of hE rfl
  have g5 : env.kindOf "undivided_row" = some .globalImplicit := kd_of hE rfl
  have hh' : (A.deeper env).handled = none := hh
  have hd' : (A.deeper env).depth < 800 := by show A.depth + 1 < 800; omega
  have hd9 : (A.deeper env).depth < 900 := by (with_reducible exact Nat.lt_of_lt_of_le (by assumption) (by decide))
  have hu' : (A.deeper env).units < 9000 := by show A.units + 3 < 9000; omega
  have M1 : Mx s₁.heap l n n r S := (hM.ext x0).ext X
  have nwO : ∀ b, Own env b → hb.get? b = none := fun b z => by
    cases e : hb.get? b with
    | none => rfl
    | some o => have := own b z; rw [up.ext x0 b o e] at this; cases this
  have ups : ∀ {s'}, Chg (Own env) s₁ s' → Up hb s' := fun c => up1.chg c nwO
  have hbn : ∀ {b}, s₁.heap.get? b = none → hb.get? b = none := fun {b} h => by
    cases e : hb.get? b with
    | none => rfl
    | some o => rw [up1 b o e] at h; cases h
  refine Seq_wp2 fun KK hKK => (Assign3s_wp (P := fun vs s' => ∃ v1 v2 v3, vs = [v1, v2, v3] ∧ ∃ ls rs lu ru lv rv U V, v1 = .ref ls ∧ v2 = .ref lu ∧ v3 = .ref lv ∧ Mx s'.heap ls n n rs S ∧ Mx s'.heap lu n n ru U ∧ Mx s'.heap lv n n rv V ∧
      Dis (Foot ls n rs) (Foot lu n ru) ∧ Dis (Foot ls n rs) (Foot lv n rv) ∧ Dis (Foot lu n ru) (Foot lv n rv) ∧
      (∀ b, Foot ls n rs b → s₁.heap.get? b = none) ∧ (∀ b, Foot lu n ru b → s₁.heap.get? b = none) ∧ (∀ b, Foot lv n rv b → s₁.heap.get? b = none)) hh' N F ?_ ?_ ?_ t3 t4 t5 (by rw [hE]; rfl) ?_)
  · refine EvL.imp (EvL.dep (P := NewM s₁ n S) (R := fun v1 vs s' => ∃ v2 r2, vs = v2 :: r2 ∧ (∃ s₂, Ext s₁ s₂ ∧ NewM s₁ n S v1 s₂ ∧ NewM s₂ n (fun i j => if i = j then 1 else 0) v2 s' ∧ ∃ v3, r2 = [v3] ∧ ∃ s₃, NewM s₂ n (fun i j => if i = j then 1 else 0) v2 s₃ ∧ Ext s₂ s₃ ∧ NewM s₃ n (fun i j => if i = j then 1 else 0) v3 s' ∧ Ext s₃ s')) ?_ ?_ NewM.mono) ?_
    · refine Ev.compR (n := n) (m := n) S hh' N F (by walk_at "cok") (ItEv.list (l := l) (by walk_at "ev") M1.outer) .N (fun C => tgN (by walk_at "st")) rfl (by (with_reducible exact Nat.le_trans (by assumption) (by decide))) ?_
      intro C i ρ₂ s₂ hi x2 zz6 F2 N2
      obtain ⟨_, rfl, rfl⟩ := zz6
      have up2 := up1.ext x2
      exact Ev.listC (by walk_at "bi") (by walk_at "ev") ((M1.ext x2).row i hi) hn
    · intro v1 s₂ p1 x2
      refine EvL.imp (EvL.dep (P := NewM s₂ n (fun i j => if i = j then 1 else 0)) (R := fun v2 vs s' => ∃ v3, vs = [v3] ∧ ∃ s₃, NewM s₂ n (fun i j => if i = j then 1 else 0) v2 s₃ ∧ Ext s₂ s₃ ∧ NewM s₃ n (fun i j => if i = j then 1 else 0) v3 s' ∧ Ext s₃ s') ?_ ?_ NewM.mono) ?_
      · have up2 := up1.ext x2
        have F2 := F.ext x2
        refine Ev.callG nm_unit_rows fn_unit_rows a up2 N g1 (EvL.one (Ev.lenC (by walk_at "bi") (by walk_at "ev") (M1.ext x2).outer (by (with_reducible exact Mine.castUp (by assumption) (by decide)))) IsI.mono) ?_
        intro vs s' zz2 x
        obtain ⟨_, rfl, ⟨t, rfl⟩⟩ := zz2
        exact (unit_rows_ev a (up2.ext x) hd9 hh' hn).imp fun v s'' ⟨l, r, e, m, f⟩ _ => ⟨l, r, e, m, fun b hb => x.2 b (f b hb)⟩
      · intro v2 s₃ p2 x3
        have up3 := (up1.ext x2).ext x3
        have F3 := (F.ext x2).ext x3
        refine EvL.imp (EvL.one (P := NewM s₃ n (fun i j => if i = j then 1 else 0)) ?_ NewM.mono) fun vs s' ⟨v3, e, p3⟩ x => ⟨v3, e, s₃, p2, x3, p3, x⟩
        refine Ev.callG nm_unit_rows fn_unit_rows a up3 N g1 (EvL.consV (by walk_at "ev") .nil) ?_
        rintro vs s' rfl x
        exact (unit_rows_ev a (up3.ext x) hd9 hh' hn).imp fun v s'' ⟨l, r, e, m, f⟩ _ => ⟨l, r, e, m, fun b hb => x.2 b (f b hb)⟩
      · intro vs s' zz2 x
        obtain ⟨v2, r2, rfl, p2, v3, rfl, s₃, p2', x3, p3, x4⟩ := zz2
        exact ⟨v2, _, rfl, s₂, x2, p1, p2, v3, rfl, s₃, p2', x3, p3, x4⟩
    · intro vs s' zz2 x
      obtain ⟨v1, _, rfl, _, v2, _, rfl, s₂, x2, ⟨ls, rs, rfl, mS, f1⟩, _, v3, rfl, s₃, ⟨lu, ru, rfl, mU, f2⟩, x3, ⟨lv, rv, rfl, mV, f3⟩, x4⟩ := zz2
      refine ⟨_, _, _, rfl, ls, rs, lu, ru, lv, rv, _, _, rfl, rfl, rfl, (mS.ext x3).ext x4, mU.ext x4, mV, ?_, ?_, ?_, f1, fun b h => x2.2 b (f2 b h), fun b h => x2.2 b (x3.2 b (f3 b h))⟩
      · exact fun b h h' => mS.exF h (f2 b h')
      · exact fun b h h' => (mS.ext x3).exF h (f3 b h')
      · exact fun b h h' => mU.exF h (f3 b h')
  · (intro vs s' zz2; obtain ⟨v1, v2, v3, rfl, _⟩ := zz2); rfl
  · intro vs s₂ s₃ zz3 x
    obtain ⟨v1, v2, v3, e, ls, rs, lu, ru, lv, rv, U, V, e1, e2, e3, a, b, c, r⟩ := zz3
    exact ⟨v1, v2, v3, e, ls, rs, lu, ru, lv, rv, U, V, e1, e2, e3, a.ext x, b.ext x, c.ext x, r⟩
  intro _ _ _ s₂ s₃ zz5 x12 c23 F3 c13
  obtain ⟨v1, v2, v3, e, ls, rs, lu, ru, lv, rv, U, V, rfl, rfl, rfl, mS, mU, mV, dsu, dsv, duv, fs, fu, fv⟩ := zz5
  refine hKK _ ?_
  cases e
  have S3 := mS.chg c23 fun b f => mS.notOwn (F.ext x12) f
  have U3 := mU.chg c23 fun b f => mU.notOwn (F.ext x12) f
  have V3 := mV.chg c23 fun b f => mV.notOwn (F.ext x12) f
  have up3 := ups c13
  -- step = 0
  refine Seq_wp2 fun KK hKK => (AssignN_wp (P := IsI 0) N F3 (by walk_at "ev") t6 ?_)
  intro v₄ s₄ s₅ zz3 x4 _ F5 c35
  obtain ⟨t0, rfl⟩ := zz3
  refine hKK _ ?_
  have c35' : Chg (Own env) s₃ s₅ := c35.mono fun _ => TgA.own
  have J5 : SJ env s₁ n R ls lu lv tw K s₅ := ⟨0, S, U, V, rs, ru, rv, t0, _, hR, Nat.zero_le _, F5, by walk_at "rho", by walk_at "rho", by walk_at "rho", by walk_at "rho", by walk_at "rho",
    S3.chg c35' fun b f => S3.notOwn F3 f, U3.chg c35' fun b f => U3.notOwn F3 f, V3.chg c35' fun b f => V3.notOwn F3 f, dsu, dsv, duv, fs, fu, fv, c13.trans c35'⟩
  -- what is handed back
  have back : ∀ {s' ρ rs'}, Fm env s'.heap ρ → ρ "s" = some (.ref ls) → ρ "u" = some (.ref lu) → ρ "v" = some (.ref lv) → Mx s'.heap ls n n rs' R → Chg (Own env) s₁ s' → ∀ {k2 p1 p2 p3 p4 p5 rest} {Q' : Flow → Shared → Prop}, (∀ v s', Q v s' → Q' (.ret v) s') →
      wpAny (Mw w) (A.deeper env) (execs (.Return (some (.Tuple [.Name "s" p1, .Name "u" p2, .Name "v" p3] k2 p4)) p5 :: rest) env) Q' (fun _ _ => False) s' := by
    intro s' ρ rs' F' h1 h2 h3 m c k2 p1 p2 p3 p4 p5 rest Q' hQ
    refine Seq_wp (Ret_wp (Ev.tuple (EvL.three (P := IsV (.ref ls)) (R := IsV (.ref lu)) (S := IsV (.ref lv)) (by walk_at "ev") (by walk_at "ev") (by walk_at "ev") IsV.mono IsV.mono IsV.mono) ?_ (fun _ _ _ h _ => h)) ?_)
    · (intro vs s' zz2; obtain ⟨_, _, _, rfl, _⟩ := zz2); simp
    · intro v s'' zz2 x
      obtain ⟨T, vs, rfl, _, hT, _, _, _, rfl, rfl, rfl, rfl⟩ := zz2
      exact hQ _ _ (q _ _ ⟨T, ls, rs', lu, lv, rfl, hT, m.ext x⟩ (X.transE (c.trans x.any) fun b hb z => absurd (own b z) hb))
  refine Seq_wp (While_wp (fun k s' => SJ env s₁ n R ls lu lv tw k s') ?_ K J5)
  clear J5 F5 c35 c35' S3 U3 V3 up3 F3
  intro k s₆ zz2
  obtain ⟨p, S, U, V, rs, ru, rv, t, ρ, hR, hpn, F6, h1, h2, h3, h4, h5, S6, U6, V6, dsu, dsv, duv, fs, fu, fv, c16⟩ := zz2
  have up6 := ups c16
  refine ⟨decide (p < n), ?_, ?_, ?_⟩
  · refine (show (decide ((p : Int) < (if (n : Int) < n then (n : Int) else n))) = decide (p < n) from by simp) ▸ Tst.lt (by walk_at "ev") (Ev.minC hh' (by walk_at "bi") ?_)
    exact EvL.imp (EvL.two (P := IsI n) (R := IsI n) (Ev.lenC (by walk_at "bi") (by walk_at "ev") S6.outer (by (with_reducible exact Mine.castUp (by assumption) (by decide)))) (by walk_at "ev") IsI.mono IsI.mono) fun vs s' ⟨_, _, e, ⟨t1, e1⟩, ⟨t2, e2⟩⟩ _ => by subst e1 e2; exact ⟨t1, t2, e⟩
  · intro hp s₇ x7
    have hp' : p < n := by simpa using hp
    have F7 := F6.ext x7
    have c17 := c16.trans x7.any
    have up7 := ups c17
    have S7 := S6.ext x7
    have U7 := U6.ext x7
    have V7 := V6.ext x7
    -- the spot
    refine Seq_wp2 fun KK hKK => (AssignN_wp (P := fun v s' => IsSpot s'.heap v (scanAll S p (n - p) (n - p))) N F7 (Ev.callG nm_least_spot fn_least_spot a up7 N g2 (EvL.consV (by walk_at "ev") (EvL.consV (by walk_at "ev") (EvL.consV (by walk_at "ev") .nil))) ?_) t7 ?_)
    · rintro vs s' rfl x
      exact least_spot_ev a (up7.ext x) hd9 hh' hn hpn (S7.ext x)
    rintro v₈ s₈ s₉ hv x78 c89 F9 c79
    refine hKK _ ?_
    have hsp := hv.sys (F7.ext x78) (Sys.own c89 fun _ => TgA.own)
    have c79' : Chg (Own env) s₇ s₉ := c79.mono fun _ => TgA.own
    have c19 := c17.trans c79'
    have up9 := ups c19
    have S9 := S7.chg c79' fun b f => S7.notOwn F7 f
    have U9 := U7.chg c79' fun b f => U7.notOwn F7 f
    have V9 := V7.chg c79' fun b f => V7.notOwn F7 f
    cases hsc : scanAll S p (n - p) (n - p) with
    | none =>
      rw [hsc] at hsp; cases hsp
      refine Seq_wp (If_wp (c := true) (Tst.isNone (v := .none) (by walk_at "ev") (by walk_at "ev") rfl) ?_ (fun h => nomatch h))
      intro _ s₁₀ x10
      have eR : S = R := hR.none' fun _ => hsc
      subst eR
      exact back (F9.ext x10) (by walk_at "rho") (by walk_at "rho") (by walk_at "rho") (S9.ext x10) (c19.trans x10.any) (fun _ _ h => h)
    | some ij =>
      obtain ⟨i, j⟩ := ij
      rw [hsc] at hsp
      obtain ⟨T, w1, w2, rfl, hT⟩ := hsp
      have hin : InB n (some (i, j)) := hsc ▸ scanAll_in (by omega) (by omega)
      have hne : S i j ≠ 0 := scanAll_ne _ hsc
      refine Seq_wp (If_wp (c := false) (Tst.isNone (v := .ref T) (by walk_at "ev") (by walk_at "ev") rfl) (fun h => nomatch h) ?_)
      intro _ s₁₀ x10
      refine wpAny_execs_nil ?_
      have F10 := F9.ext x10
      have c1a := c19.trans x10.any
      have up10 := ups c1a
      -- bring
      refine Seq_wp (Expr_wp (callG_wp nm_bring fn_bring a up10 N g3 (EvL.consV (by walk_at "ev") (EvL.consV (by walk_at "ev") (EvL.consV (by walk_at "ev") (EvL.consV (by walk_at "ev") (EvL.consV (by walk_at "ev") .nil))))) ?_) (by rw [hE]; rfl))
      rintro vs s₁₁ rfl x11
      have x9b := x10.trans x11
      refine bring_wp a (up10.ext x11) hd' hh' hn (S9.ext x9b) (U9.ext x9b) (V9.ext x9b) dsu dsv duv (fun b f => hbn (fs b f)) (fun b f => hbn (fu b f)) (fun b f => hbn (fv b f)) (hT.keeps x9b.all) hin.1 hin.2 hp' ?_
      intro s₁₂ S12 U12 V12 c12
      refine ⟨rfl, ?_⟩
      have x1b : Ext s₉ s₁₁ := x9b
      have F11 := F9.ext x9b
      have S11 := S9.ext x9b
      have U11 := U9.ext x9b
      have V11 := V9.ext x9b
      have F12 : Fm env s₁₂.heap _ := F11.chg c12 fun b hb z => z.elim (fun f => S11.notOwn F11 f hb) fun z => z.elim (fun f => U11.notOwn F11 f hb) fun f => V11.notOwn F11 f hb
      have c1_12 : Chg (Own env) s₁ s₁₂ := (c19.trans (Ext.any (Z := Own env) x9b)).transE c12 fun b hb z => z.elim (fun f => absurd (fs b f) hb) fun z => z.elim (fun f => absurd (fu b f) hb) fun f => absurd (fv b f) hb
      have up12 := ups c1_12
      have gs : ∀ b, Foot ls n (fun k => rs (swp i p k)) b → Foot ls n rs b := fun b f => f.swap hin.1 hp'
      have gu : ∀ b, Foot lu n (fun k => ru (swp i p k)) b → Foot lu n ru b := fun b f => f.swap hin.1 hp'
      have hL : brg S i j p p p ≠ 0 := by rw [brg_pp]; exact hne
      have hcb : cellB (brg S i j p) n p := by
        exact (hR.cases' hp' hsc).1
      -- clear_cross
      refine Seq_wp (wpAny_If (wpAny_isTrue_Not (wpAny_isTrue_value (callG_wp nm_clear_cross fn_clear_cross a up12 N g4 (EvL.consV (by walk_at "ev") (EvL.consV (by walk_at "ev") (EvL.consV (by walk_at "ev") (EvL.consV (by walk_at "ev") (EvL.consV (by walk_at "ev") .nil))))) ?_) (by rfl))))
      rintro vs s₁₃ rfl x13
      refine clear_cross_wp (S := brg S i j p) a (up12.ext x13) hd' hh' hn (S12.ext x13) (U12.ext x13) (V12.ext x13) (fun b f f' => dsu b (gs b f) (gu b f')) (fun b f f' => dsv b (gs b f) f') (fun b f f' => duv b (gu b f) f')
        (fun b f => hbn (fs b (gs b f))) (fun b f => hbn (fu b (gu b f))) (fun b f => hbn (fv b f)) hp' hL hcb.1 hcb.2 ?_
      intro s₁₄ rs4 ru4 rv4 S14 U14 V14 gr1 gr2 gr3 d1 d2 d3 c13_14
      refine wpAny_truthy_bool ?_
      have F13 := F12.ext x13
      have S13 := S12.ext x13
      have U13 := U12.ext x13
      have V13 := V12.ext x13
      have F14 : Fm env s₁₄.heap _ := F13.chg c13_14 fun b hb z => z.elim (fun f => S13.notOwn F13 f hb) fun z => z.elim (fun f => U13.notOwn F13 f hb) fun f => V13.notOwn F13 f hb
      have c1_13 := c1_12.trans (Ext.any (Z := Own env) x13)
      have c1_14 : Chg (Own env) s₁ s₁₄ := c1_13.transE c13_14 fun b hb z => z.elim (fun f => absurd (fs b (gs b f)) hb) fun z => z.elim (fun f => absurd (fu b (gu b f)) hb) fun f => absurd (fv b f) hb
      have up14 := ups c1_14
      have fs4 : ∀ b, Foot ls n rs4 b → s₁.heap.get? b = none := fun b f => (gr1 b f).elim (fun f => fs b (gs b f)) fun e => c1_13.2 b e
      have fu4 : ∀ b, Foot lu n ru4 b → s₁.heap.get? b = none := fun b f => (gr2 b f).elim (fun f => fu b (gu b f)) fun e => c1_13.2 b e
      have fv4 : ∀ b, Foot lv n rv4 b → s₁.heap.get? b = none := fun b f => (gr3 b f).elim (fun f => fv b f) fun e => c1_13.2 b e
      have hS4 : Mx s₁₄.heap ls n n rs4 (clr n (brg S i j p) p) := S14
      show if !(isDone n (brg S i j p) p) then _ else _
      clear S14 S12 S13 S11 U11 U12 U13 V11 V12 V13 F11 F12 F13
      cases hdn : isDone n (brg S i j p) p with
      | false =>
        simp only [Bool.not_false, if_true]
        refine Seq_wp (wpAny_Continue ?_)
        obtain ⟨k', hk', r⟩ := (hR.cases' hp' hsc).2.1 hdn
        exact ⟨_, hk', p, _, _, _, rs4, ru4, rv4, t, _, r, hpn, F14, by walk_at "rho", by walk_at "rho", by walk_at "rho", by walk_at "rho", by walk_at "rho", hS4, U14, V14, d1, d2, d3, fs4, fu4, fv4, c1_14⟩
      | true =>
        simp only [Bool.not_true, Bool.false_eq_true, if_false]
        refine wpAny_execs_nil ?_
        have hLL : clr n (brg S i j p) p p p ≠ 0 := by rw [clr_pp]; exact hL
        refine Seq_wp2 fun KK hKK => (AssignN_wp (P := fun v s' => IsOpt v (firstU (clr n (brg S i j p) p) p (n - (p + 1)) (n - (p + 1)))) N F14 (Ev.callG nm_undivided_row fn_undivided_row a up14 N g5 (EvL.consV (by walk_at "ev") (EvL.consV (by walk_at "ev") (EvL.consV (by walk_at "ev") .nil))) ?_) t8 ?_)
        · rintro vs s' rfl x
          exact undivided_row_ev a (up14.ext x) hd9 hu' hh' hn hp' (hS4.ext x) hLL
        rintro v₁₅ s₁₅ s₁₆ hv2 x15 _ F16 c14_16
        refine hKK _ ?_
        have c14_16' : Chg (Own env) s₁₄ s₁₆ := c14_16.mono fun _ => TgA.own
        have c1_16 := c1_14.trans c14_16'
        have up16 := ups c1_16
        have S16 := hS4.chg c14_16' fun b f => hS4.notOwn F14 f
        have U16 := U14.chg c14_16' fun b f => U14.notOwn F14 f
        have V16 := V14.chg c14_16' fun b f => V14.notOwn F14 f
        generalize hC : clr n (brg S i j p) p = C at *
        cases hfu : firstU C p (n - (p + 1)) (n - (p + 1)) with
        | some x =>
          rw [hfu] at hv2
          obtain ⟨tx, rfl⟩ := hv2
          have hxb := firstU_lt hfu
          have hx : x < n := by omega
          refine Seq_wp (If_wp (c := true) (Tst.isNotNone (v := .int x tx) (by walk_at "ev") (by walk_at "ev") rfl) ?_ (fun h => nomatch h))
          intro _ s₁₇ x17
          have F17 := F16.ext x17
          have c1_17 := c1_16.trans (Ext.any (Z := Own env) x17)
          have up17 := ups c1_17
          refine Seq_wp (For2M_wp (fun M => addR M x p) hh' N F17 t9 (Ev.tuple2 (by walk_at "ev") (by walk_at "ev")) (S16.ext x17) (U16.ext x17) d1
            (fun ρ => ρ "s" = some (.ref ls) ∧ ρ "u" = some (.ref lu) ∧ ρ "v" = some (.ref lv) ∧ ρ "step" = some (.int p t) ∧ ρ "width" = some (.int n tw) ∧ ρ "row" = some (.int x tx))
            ⟨by walk_at "rho", by walk_at "rho", by walk_at "rho", by walk_at "rho", by walk_at "rho", by walk_at "rho"⟩ ?_ ?_)
          · intro l8 r8 M ρ₁₈ s₁₈ Q' _ M18 zz8 F18 c17_18 k18
            obtain ⟨j1, j2, j3, j4, j5, j6⟩ := zz8
            have c1_18 : Chg (Own env) s₁ s₁₈ := c1_17.transE c17_18 fun b hb z => z.elim id fun z => z.elim (fun f => absurd (fs4 b f) hb) fun f => absurd (fu4 b f) hb
            have up18 := ups c1_18
            refine Seq_wp (PutRow_wp (k := p) (f := fun y => M p y + M x y) M18 ?_ (by walk_at "ev") (by walk_at "ev") hp' (by (with_reducible exact Nat.le_trans (by assumption) (by decide))) ?_)
            · refine Ev.compV (n := n) (fun y v => ∃ t, v = .int (M p y + M x y) t) hh' N F18 (by walk_at "cok") (ItEv.enum (P := fun y v => ∃ t, v = .int (M p y) t) (l := r8 p) hh' (by walk_at "bi") ?_ (M18.row _ hp')) .E
                (fun C => tgE (by walk_at "st") (by walk_at "st")) rfl (by (with_reducible exact Nat.le_trans (by assumption) (by decide))) ?_
              · exact Ev.item (k := (p : Int)) (by walk_at "ev") (by walk_at "ev") M18.outer (by (with_reducible exact Int.natCast_nonneg _)) (by (with_reducible exact Int.ofNat_lt.2 (by assumption))) (by (with_reducible exact Mine.castUp (by assumption) (by decide)))
              · intro C y ρ₈ s₈ hy x8 zz6 F8 N8
                obtain ⟨v, ty, ⟨tv, rfl⟩, rfl⟩ := zz6
                exact Ev.add (by walk_at "ev") (Ev.mat (i := x) (j := y) (by walk_at "ev") (M18.ext x8) (by walk_at "ev") (by walk_at "ev") hx hy (by (with_reducible exact Nat.le_trans (by assumption) (by decide))) (by (with_reducible exact Nat.le_trans (by assumption) (by decide))))
            · intro s₁₉ D M19 hD c18_19
              have nO : ¬ Own env l8 := M18.notOwn F18 (.inl rfl)
              refine wpAny_execs_nil (k18 s₁₉ _ _ M19 ⟨by walk_at "rho", by walk_at "rho", by walk_at "rho", by walk_at "rho", by walk_at "rho", by walk_at "rho"⟩ (F18.chg c18_19 fun b hb e => nO (e ▸ hb)) (c18_19.mono fun b e => .inr (.inl e)) ?_)
              exact fun b f => f.put.imp id fun e => by rw [e]; exact hD
          · intro s₁₈ ρ₁₈ rs8 ru8 S18 U18 zz6 F18 c17_18 gr8 gr9 d8
            obtain ⟨j1, j2, j3, j4, j5, j6⟩ := zz6
            have hVd : ∀ b, Foot lv n rv4 b → ¬ (Own env b ∨ Foot ls n rs4 b ∨ Foot lu n ru4 b) := fun b f z => z.elim (fun z => (V16.ext x17).notOwn F17 f z) fun z => z.elim (fun e => d2 b e f) fun e => d3 b e f
            have V18 := (V16.ext x17).chg c17_18 hVd
            have c1_18 : Chg (Own env) s₁ s₁₈ := c1_17.transE c17_18 fun b hb z => z.elim id fun z => z.elim (fun f => absurd (fs4 b f) hb) fun f => absurd (fu4 b f) hb
            have V17ex : ∀ b, Foot lv n rv4 b → s₁₇.heap.get? b ≠ none := fun b f => (V16.ext x17).exF f
            refine Seq_wp (wpAny_Continue ?_)
            obtain ⟨k', hk', r⟩ := (hR.cases' hp' hsc).2.2.1 hdn x (hC.symm ▸ hfu)
            rw [hC] at r
            exact ⟨_, hk', p, _, _, _, rs8, ru8, rv4, t, _, r, hpn, F18, j1, j2, j3, j4, j5, S18, U18, V18, d8, gr8.dis d2 V17ex, gr9.dis d3 V17ex,
              fun b f => (gr8 b f).elim (fs4 b) fun e => c1_17.2 b e, fun b f => (gr9 b f).elim (fu4 b) fun e => c1_17.2 b e, fv4, c1_18⟩
        | none =>
          rw [hfu] at hv2
          cases hv2
          refine Seq_wp (If_wp (c := false) (Tst.isNotNone (v := .none) (by walk_at "ev") (by walk_at "ev") rfl) (fun h => nomatch h) ?_)
          intro _ s₁₇ x17
          refine wpAny_execs_nil ?_
          have F17 := F16.ext x17
          have c1_17 := c1_16.trans (Ext.any (Z := Own env) x17)
          have up17 := ups c1_17
          obtain ⟨k', hk', hrun⟩ := (hR.cases' hp' hsc).2.2.2 hdn (hC.symm ▸ hfu)
          rw [hC] at hrun
          -- step = step + 1
          have last : ∀ {s' ρ' S' U' V' rs' ru'}, S' = (if C p p < 0 then negR C p else C) → Fm env s'.heap ρ' → ρ' "s" = some (.ref ls) → ρ' "u" = some (.ref lu) → ρ' "v" = some (.ref lv) → ρ' "step" = some (.int p t) → ρ' "width" = some (.int n tw) →
              Mx s'.heap ls n n rs' S' → Mx s'.heap lu n n ru' U' → Mx s'.heap lv n n rv4 V' → Dis (Foot ls n rs') (Foot lu n ru') → Dis (Foot ls n rs') (Foot lv n rv4) → Dis (Foot lu n ru') (Foot lv n rv4) →
              (∀ b, Foot ls n rs' b → s₁.heap.get? b = none) → (∀ b, Foot lu n ru' b → s₁.heap.get? b = none) → Chg (Own env) s₁ s' → ∀ {kk : Nat} {pp pp2 pp3 pp4 pp5 : Pos} {Q' : Flow → Shared → Prop}, (∀ s'', (∃ m, m < k ∧ SJ env s₁ n R ls lu lv tw m s'') → Q' .next s'') →
              wpAny (Mw w) (A.deeper env) (execs [.Assign [.Name "step" pp] (.BinOp (.Name "step" pp2) .Add (.Constant (.int 1) kk pp3) pp4) pp5] env) Q' (fun _ _ => False) s' := by
            intro s' ρ' S' U' V' rs' ru' eS F' h1 h2 h3 h4 h5 mS mU mV d1 d2 d3 fs' fu' c kk pp pp2 pp3 pp4 pp5 Q' hQ
            refine Seq_wp2 fun KK hKK => (AssignN_wp (P := IsI ((p + 1 : Nat) : Int)) N F' (Ev.castI (Ev.add (a := (p : Int)) (b := 1) (by walk_at "ev") (by walk_at "ev")) (by omega)) t6 ?_)
            intro v s₃ s₄ zz3 x3 _ F4 c4
            obtain ⟨tv, rfl⟩ := zz3
            refine hKK _ ?_
            have c4' : Chg (Own env) s' s₄ := c4.mono fun _ => TgA.own
            refine wpAny_execs_nil (hQ _ ⟨k', hk', p + 1, _, _, _, rs', ru', rv4, tv, _, hrun, hp', F4, by walk_at "rho", by walk_at "rho", by walk_at "rho", by walk_at "rho", by walk_at "rho",
              eS ▸ mS.chg c4' fun b f => mS.notOwn F' f, mU.chg c4' fun b f => mU.notOwn F' f, mV.chg c4' fun b f => mV.notOwn F' f, d1, d2, d3, fs', fu', fv4, c.trans c4'⟩)
          refine Seq_wp (If_wp (c := decide (C p p < 0)) (Tst.lt (Ev.mat (i := p) (j := p) (by walk_at "ev") (S16.ext x17) (by walk_at "ev") (by walk_at "ev") hp' hp' (by (with_reducible exact Nat.le_trans (by assumption) (by decide))) (by (with_reducible exact Nat.le_trans (by assumption) (by decide)))) (by walk_at "ev")) ?_ ?_)
          · intro hneg s₁₈ x18
            have hneg' : C p p < 0 := by simpa using hneg
            have F18 := F17.ext x18
            have c1_18 := c1_17.trans (Ext.any (Z := Own env) x18)
            have up18 := ups c1_18
            have x16_18 := x17.trans x18
            refine Seq_wp (For2M_wp (fun M => negR M p) hh' N F18 t9 (Ev.tuple2 (by walk_at "ev") (by walk_at "ev")) (S16.ext x16_18) (U16.ext x16_18) d1
              (fun ρ => ρ "s" = some (.ref ls) ∧ ρ "u" = some (.ref lu) ∧ ρ "v" = some (.ref lv) ∧ ρ "step" = some (.int p t) ∧ ρ "width" = some (.int n tw))
              ⟨by walk_at "rho", by walk_at "rho", by walk_at "rho", by walk_at "rho", by walk_at "rho"⟩ ?_ ?_)
            · intro l8 r8 M ρ₁₈ s₁₉ Q' _ M18 zz8 F19 c18_19 k18
              obtain ⟨j1, j2, j3, j4, j5⟩ := zz8
              have c1_19 : Chg (Own env) s₁ s₁₉ := c1_18.transE c18_19 fun b hb z => z.elim id fun z => z.elim (fun f => absurd (fs4 b f) hb) fun f => absurd (fu4 b f) hb
              have up19 := ups c1_19
              refine Seq_wp (PutRow_wp (k := p) (f := fun y => - M p y) M18 ?_ (by walk_at "ev") (by walk_at "ev") hp' (by (with_reducible exact Nat.le_trans (by assumption) (by decide))) ?_)
              · refine Ev.compV (n := n) (fun y v => ∃ t, v = .int (- M p y) t) hh' N F19 (by walk_at "cok") (ItEv.list (P := fun y v => ∃ t, v = .int (M p y) t) (l := r8 p) ?_ (M18.row _ hp')) .N
                  (fun C => tgN (by walk_at "st")) rfl (by (with_reducible exact Nat.le_trans (by assumption) (by decide))) ?_
                · exact Ev.item (k := (p : Int)) (by walk_at "ev") (by walk_at "ev") M18.outer (by (with_reducible exact Int.natCast_nonneg _)) (by (with_reducible exact Int.ofNat_lt.2 (by assumption))) (by (with_reducible exact Mine.castUp (by assumption) (by decide)))
                · intro C y ρ₈ s₈ hy x8 zz6 F8 N8
                  obtain ⟨v, ⟨tv, rfl⟩, rfl⟩ := zz6
                  exact Ev.neg (by walk_at "ev")
              · intro s₂₀ D M20 hD c19_20
                have nO : ¬ Own env l8 := M18.notOwn F19 (.inl rfl)
                refine wpAny_execs_nil (k18 s₂₀ _ _ M20 ⟨by walk_at "rho", by walk_at "rho", by walk_at "rho", by walk_at "rho", by walk_at "rho"⟩ (F19.chg c19_20 fun b hb e => nO (e ▸ hb)) (c19_20.mono fun b e => .inr (.inl e)) ?_)
                exact fun b f => f.put.imp id fun e => by rw [e]; exact hD
            · intro s₁₉ ρ₁₉ rs8 ru8 S19 U19 zz6 F19 c18_19 gr8 gr9 d8
              obtain ⟨j1, j2, j3, j4, j5⟩ := zz6
              have hVd : ∀ b, Foot lv n rv4 b → ¬ (Own env b ∨ Foot ls n rs4 b ∨ Foot lu n ru4 b) := fun b f z => z.elim (fun z => (V16.ext x16_18).notOwn F18 f z) fun z => z.elim (fun e => d2 b e f) fun e => d3 b e f
              have V19 := (V16.ext x16_18).chg c18_19 hVd
              have c1_19 : Chg (Own env) s₁ s₁₉ := c1_18.transE c18_19 fun b hb z => z.elim id fun z => z.elim (fun f => absurd (fs4 b f) hb) fun f => absurd (fu4 b f) hb
              have V18ex : ∀ b, Foot lv n rv4 b → s₁₈.heap.get? b ≠ none := fun b f => (V16.ext x16_18).exF f
              refine wpAny_execs_nil (last (by rw [if_pos hneg']) F19 j1 j2 j3 j4 j5 S19 U19 V19 d8 (gr8.dis d2 V18ex) (gr9.dis d3 V18ex)
                (fun b f => (gr8 b f).elim (fs4 b) fun e => c1_18.2 b e) (fun b f => (gr9 b f).elim (fu4 b) fun e => c1_18.2 b e) c1_19 (fun s'' h => h))
          · intro hneg s₁₈ x18
            have hneg' : ¬ C p p < 0 := by simpa using hneg
            have x16_18 := x17.trans x18
            refine wpAny_execs_nil (last (by rw [if_neg hneg']) (F17.ext x18) (by walk_at "rho") (by walk_at "rho") (by walk_at "rho") (by walk_at "rho") (by walk_at "rho") (S16.ext x16_18) (U16.ext x16_18) (V16.ext x16_18) d1 d2 d3 fs4 fu4
              (c1_17.trans (Ext.any (Z := Own env) x18)) (fun s'' h => h))
  · intro hp s₇ x7
    have hp' : n ≤ p := by simpa using hp
    have eR : S = R := hR.none' fun h => by omega
    subst eR
    exact back (F6.ext x7) h1 h2 h3 (S6.ext x7) (c16.trans x7.any) (fun _ _ h => h)


end Mine
end
-- diagonal
section
open PySem PySem.W PyProof.Rows PySem.Calls
set_option Elab.async false
set_option maxRecDepth 100000
set_option linter.unusedVariables false
set_option maxHeartbeats 1000000
namespace Mine
variable {w : World} {A : Around} {s : Shared} {hb : Heap}

theorem diagonal_ev {l : Addr} {n : Nat} {r : Nat → Addr} {S : Nat → Nat → Int} {tw : Tok} (a : Am (KK w) hb) (up : Up hb s) (hd : A.depth < 900) (hh : A.handled = none) (hn : n ≤ 100)
    (hM : Mx s.heap l n n r S) :
    Ev (Mw w) A (call (.ref 60) [.ref l, .int n tw]) s (fun v s' => ∃ q, v = .ref q ∧ s.heap.get? q = none ∧ LI s'.heap q n (fun i => S i i)) := by
  intro s₀ x0 Q q
  refine call_K1 (fa := 60) (binds := [(Str.ofString "s", .ref l), (Str.ofString "width", .int n tw)]) a (up.ext x0) (by show A.depth < 1000; (with_reducible exact Nat.lt_of_lt_of_le (by assumption) (by decide))) rfl rfl rfl rfl rfl rfl (by decide) rfl rfl ?_
  intro env s₁ hE N F X own
  have up1 := (up.ext x0).ext X
  have l1 : ldOk env "s" = true := ld_of hE rfl
  have l2 : ldOk env "width" = true := ld_of hE rfl
  have c1 : HasC env "s" := hasC_of hE rfl
  have gr : env.kindOf "range" = some .globalImplicit := kd_of hE rfl
  have gl : env.kindOf "len" = some .globalImplicit := kd_of hE rfl
  have gm : env.kindOf "min" = some .globalImplicit := kd_of hE rfl
  have hh' : (A.deeper env).handled = none := hh
  have M1 : Mx s₁.heap l n n r S := (hM.ext x0).ext X
  clear hE
  refine Seq_wp (Ret_wp (Ev.compV (n := n) (fun i v => ∃ t, v = .int (S i i) t) hh' N F (by walk_at "cok") (ItEv.rangeN (lo := 0) (hi := n) (k := n) (Ev.range1 (by walk_at "bi") (Ev.castI (Ev.minC (a := n) (b := n) hh' (by walk_at "bi") ?_) (by simp))) (by omega) (by decide) (by decide) (by (with_reducible exact Mine.castUp (by assumption) (by decide))) (by (with_reducible exact Mine.castLo (by decide)))) .N
    (fun C => tgN (by walk_at "st")) rfl (by (with_reducible exact Nat.le_trans (by assumption) (by decide))) ?_) ?_)
  · exact EvL.imp (EvL.two (P := IsI n) (R := IsI n) (Ev.lenC (by walk_at "bi") (by walk_at "ev") M1.outer (by (with_reducible exact Mine.castUp (by assumption) (by decide)))) (by walk_at "ev") IsI.mono IsI.mono) fun vs s' ⟨_, _, e, ⟨t1, e1⟩, ⟨t2, e2⟩⟩ _ => by subst e1 e2; exact ⟨t1, t2, e⟩
  · intro C i ρ₂ s₂ hi x2 zz6 F2 N2
    obtain ⟨_, ⟨tv, rfl⟩, rfl⟩ := zz6
    have e0 : ((0 : Int) + (i : Int)) = ((i : Nat) : Int) := by omega
    rw [e0] at F2
    exact (Ev.mat (i := i) (j := i) (by walk_at "ev") (M1.ext x2) (by walk_at "ev") (by walk_at "ev") hi hi (by (with_reducible exact Nat.le_trans (by assumption) (by decide))) (by (with_reducible exact Nat.le_trans (by assumption) (by decide)))).imp fun v s' h _ => h
  · intro v s' zz2 x
    obtain ⟨D, rfl, hD, L⟩ := zz2
    exact q _ _ ⟨D, rfl, x0.2 _ (X.2 _ hD), L⟩ (X.transE x.any fun b hb z => absurd (own b z) hb)


end Mine
end
-- pivot_row
section
open PySem PySem.W PyProof.Rows PySem.Calls
set_option Elab.async false
set_option maxRecDepth 100000
set_option linter.unusedVariables false
set_option maxHeartbeats 1000000
namespace Mine
variable {w : World} {A : Around} {s : Shared} {hb : Heap}

noncomputable def pivR (S : Nat → Nat → Int) (p : Nat) : Nat → Option Nat
  | 0 => none
  | k + 1 => (pivR S p k).or (if S (p + k) p ≠ 0 then some (p + k) else none)
noncomputable def IsOpt2 (v : Value) : Option Nat → Prop
  | none => v = .none
  | some x => ∃ t, v = .int x t
theorem pivR_some {S p k x} (h : pivR S p k = some x) : ∀ d, pivR S p (k + d) = some x
  | 0 => h
  | d + 1 => by show (pivR S p (k + d)).or _ = some x; rw [pivR_some h d]; rfl
theorem pivot_row_ev {l : Addr} {n m p : Nat} {r : Nat → Addr} {S : Nat → Nat → Int} {t : Tok} (a : Am (KK w) hb) (up : Up hb s) (hd : A.depth < 900) (hh : A.handled = none) (hn : n ≤ 100) (hp : p < n)
    (hM : Mx s.heap l n n r S) :
    Ev (Mw w) A (call (.ref 87) [.ref l, .int p t]) s (fun v s' => IsOpt2 v (pivR S p (n - p))) := by
  intro s₀ x0 Q q
  refine call_K1 (fa := 87) (binds := [(Str.ofString "a", .ref l), (Str.ofString "step", .int p t)]) a (up.ext x0) (by show A.depth < 1000; (with_reducible exact Nat.lt_of_lt_of_le (by assumption) (by decide))) rfl rfl rfl rfl rfl rfl (by decide) rfl rfl ?_
  intro env s₁ hE N F X own
  have up1 := (up.ext x0).ext X
  have l1 : ldOk env "a" = true := ld_of hE rfl
  have l2 : ldOk env "step" = true := ld_of hE rfl
  have l4 : ldOk env "row" = true := ld_of hE rfl
  have t4 : stOk env "row" = true := st_of hE rfl
  have gr : env.kindOf "range" = some .globalImplicit := kd_of hE rfl
  have gl : env.kindOf "len" = some .globalImplicit := kd_of hE rfl
  have hh' : (A.deeper env).handled = none := hh
  clear hE
  have M1 : Mx s₁.heap l n n r S := (hM.ext x0).ext X
  have ofOwn : ∀ s', Chg (Own env) s₁ s' → Mx s'.heap l n n r S ∧ Up hb s' := fun s' c =>
    ⟨M1.chg c fun b f => M1.notOwn F f, fun b o e => c.1 b o (up1 b o e) fun z => by
      have h1 := own b z
      rw [up.ext x0 b o e] at h1; cases h1⟩
  refine Seq_wp (For_wp (mods := Own env) (n := n - p) hh' N F (tgN t4) (ItEv.rangeN (lo := (p : Int)) (hi := n) (k := n - p) (Ev.range2 (by walk_at "bi") (by walk_at "ev") (Ev.lenC (by walk_at "bi") (by walk_at "ev") M1.outer (by (with_reducible exact Mine.castUp (by assumption) (by decide))))) (by omega) (by (with_reducible exact Mine.castLo (by decide))) (by omega) (by (with_reducible exact Mine.castUp (by assumption) (by decide))) (by (with_reducible exact Mine.castLo (by decide))))
    (fun _ h => h.elim) (fun b z => F.exOwn z) (fun b z => z)
    (fun k ρ s' => pivR S p k = none ∧ ρ "a" = some (.ref l) ∧ ρ "step" = some (.int p t))
    ?_ (fun s' x => ⟨rfl, by walk_at "rho", by walk_at "rho"⟩) ?_ ?_)
  · exact fun k ρ s₄ s₅ h _ F4 y => h
  · intro k ρ₁ ρ₂ s₄ hk zz5 zz6 F4 c4'
    obtain ⟨h0, h1, h2⟩ := zz5
    obtain ⟨_, ⟨t₁, rfl⟩, rfl⟩ := zz6
    have M4 := (ofOwn s₄ c4').1
    have up4 := (ofOwn s₄ c4').2
    have ex : ((p : Int) + k) = ((p + k : Nat) : Int) := by omega
    rw [ex] at F4
    refine Seq_wp (If_wp (c := S (p + k) p != 0) (Tst.ne (Ev.mat (i := p + k) (j := p) (by walk_at "ev") M4 (by walk_at "ev") (by walk_at "ev") (by omega) hp (by (with_reducible exact Nat.le_trans (by assumption) (by decide))) (by (with_reducible exact Nat.le_trans (by assumption) (by decide)))) (by walk_at "ev")) ?_ ?_)
    · intro hc s₈ x8
      have hc' : S (p + k) p ≠ 0 := by simpa using hc
      refine Seq_wp (Ret_wp (P := IsI ((p + k : Nat) : Int)) (by have F8 := F4.ext x8; walk_at "ev") ?_)
      intro v s₉ zz2 x9
      obtain ⟨tv, rfl⟩ := zz2
      refine ⟨x8.any.trans x9.any, ?_⟩
      have e : pivR S p (n - p) = some (p + k) := by
        have e1 : pivR S p (k + 1) = some (p + k) := by
          show (pivR _ _ _).or _ = _
          rw [h0, if_pos hc']; rfl
        have e2 := pivR_some e1 (n - p - (k + 1))
        rwa [show k + 1 + (n - p - (k + 1)) = n - p from by omega] at e2
      rw [e] at q
      refine q _ _ ⟨tv, rfl⟩ (X.transE (c4'.trans (x8.any.trans x9.any)) fun b hb z => absurd (own b z) hb)
    · intro hc s₈ x8
      have hc' : ¬ S (p + k) p ≠ 0 := by simpa using hc
      refine wpAny_execs_nil (wpAny_execs_nil ⟨x8.any, _, F4.ext x8, ?_, by walk_at "rho", by walk_at "rho"⟩)
      show (pivR _ _ _).or _ = none
      rw [h0, if_neg hc']; rfl
  · intro ρ₁ s₄ zz2 F4 c4
    obtain ⟨h0, h1, h2⟩ := zz2
    refine Seq_wp (Ret_wp (P := IsV .none) (by walk_at "ev") ?_)
    rintro v' s₅ rfl x5
    rw [h0] at q
    exact q _ _ rfl (X.transE (c4.trans x5.any) fun b hb z => absurd (own b z) hb)


end Mine
end
-- bareiss_step
section
open PySem PySem.W PyProof.Rows PySem.Calls
set_option Elab.async false
set_option maxRecDepth 100000
set_option linter.unusedVariables false
set_option maxHeartbeats 1000000
namespace Mine
variable {w : World} {A : Around} {s : Shared} {hb : Heap}

theorem plk (p k : Nat) : p < p + 1 + k := Nat.lt_of_lt_of_le (Nat.lt_succ_self p) (Nat.le_add_right _ k)
noncomputable def bsE (S : Nat → Nat → Int) (p : Nat) (d : Int) (x y : Nat) : Int := (S x y * S p p - S x p * S p y).fdiv d
noncomputable def BSK (S : Nat → Nat → Int) (p : Nat) (d : Int) (k x y : Nat) : Int := if p < x ∧ x < p + 1 + k then (if y = p then 0 else if p < y then bsE S p d x y else S x y) else S x y
noncomputable def BSI (S : Nat → Nat → Int) (p : Nat) (d : Int) (k j x y : Nat) : Int := if x = p + 1 + k ∧ p < y ∧ y < p + 1 + j then bsE S p d x y else BSK S p d k x y
theorem bareiss_step_wp {Q : Value → Shared → Prop} {l : Addr} {n p : Nat} {r : Nat → Addr} {S : Nat → Nat → Int} {d : Int} {t u : Tok} (a : Am (KK w) hb) (up : Up hb s) (hd : A.depth < 900) (hh : A.handled = none) (hn : n ≤ 100)
    (hM : Mx s.heap l n n r S) (nw : ∀ b, Foot l n r b → hb.get? b = none) (hp : p < n) (hd0 : d ≠ 0) (hdb : d.natAbs < 2 ^ 63) (hS : ∀ x y, x < n → y < n → (S x y).natAbs < 2 ^ 63)
    (q : ∀ s', Mx s'.heap l n n r (BSK S p d (n - (p + 1))) → Chg (Foot l n r) s s' → Q .none s') :
    wpAny (Mw w) A (call (.ref 94) [.ref l, .int p t, .int d u]) Q (fun _ _ => False) s := by
  refine call_K1 (fa := 94) (binds := [(Str.ofString "a", .ref l), (Str.ofString "step", .int p t), (Str.ofString "ahead", .int d u)]) a up (by show A.depth < 1000; (with_reducible exact Nat.lt_of_lt_of_le (by assumption) (by decide))) rfl rfl rfl rfl rfl rfl (by decide) rfl rfl ?_
  intro env s₁ hE N F X own
  have l1 : ldOk env "a" = true := ld_of hE rfl
  have l2 : ldOk env "step" = true := ld_of hE rfl
  have l3 : ldOk env "ahead" = true := ld_of hE rfl
  have l4 : ldOk env "lead" = true := ld_of hE rfl
  have l5 : ldOk env "row" = true := ld_of hE rfl
  have l6 : ldOk env "first" = true := ld_of hE rfl
  have l7 : ldOk env "column" = true := ld_of hE rfl
  have t4 : stOk env "lead" = true := st_of hE rfl
  have t5 : stOk env "row" = true := st_of hE rfl
  have t6 : stOk env "first" = true := st_of hE rfl
  have t7 : stOk env "column" = true := st_of hE rfl
  have gr : env.kindOf "range" = some .globalImplicit := kd_of hE rfl
  have gl : env.kindOf "len" = some .globalImplicit := kd_of hE rfl
  have hh' : (A.deeper env).handled = none := hh
  clear hE
  have M1 := hM.ext X
  let Z : Addr → Prop := fun b => Own env b ∨ Foot l n r b
  have nwO : ∀ b, Own env b → hb.get? b = none := fun b z => by
    cases e : hb.get? b with
    | none => rfl
    | some o => have := own b z; rw [up b o e] at this; cases this
  have ups : ∀ {s'}, Chg Z s₁ s' → Up hb s' := fun c => (up.ext X).chg c fun b z => z.elim (nwO b) (nw b)
  refine Seq_wp2 fun KK hKK => (AssignN_wp (P := IsI (S p p)) N F (Ev.mat (i := p) (j := p) (by walk_at "ev") M1 (by walk_at "ev") (by walk_at "ev") hp hp (by (with_reducible exact Nat.le_trans (by assumption) (by decide))) (by (with_reducible exact Nat.le_trans (by assumption) (by decide)))) t4 ?_)
  intro v₂ s₂ s₃ zz3 x2 _ F3 c13
  obtain ⟨tl, rfl⟩ := zz3
  refine hKK _ ?_
  have c13' : Chg (Own env) s₁ s₃ := c13.mono fun _ => TgA.own
  have M3 := M1.chg c13' fun b f => M1.notOwn F f
  have c13Z : Chg Z s₁ s₃ := c13'.mono fun b z => .inl z
  have up3 := ups c13Z
  have hexZ : ∀ {s'}, Chg Z s₁ s' → ∀ b, Z b → s'.heap.get? b ≠ none := fun c b z => c.ex (z.elim (fun z => F.exOwn z) fun z => M1.exF z)
  refine Seq_wp (For_wp (mods := Z) (n := n - (p + 1)) hh' N F3 (tgN t5) (ItEv.rangeN (lo := (p : Int) + 1) (hi := n) (k := n - (p + 1)) (Ev.range2 (by walk_at "bi") (Ev.add (by walk_at "ev") (by walk_at "ev")) (Ev.lenC (by walk_at "bi") (by walk_at "ev") M3.outer (by (with_reducible exact Mine.castUp (by assumption) (by decide))))) (by omega) (by omega) (by omega) (by (with_reducible exact Mine.castUp (by assumption) (by decide))) (by (with_reducible exact Mine.castLo (by decide))))
    (fun _ h => h.elim) (hexZ c13Z) (fun b z => .inl z)
    (fun k ρ s' => (ρ "a" = some (.ref l) ∧ ρ "step" = some (.int p t) ∧ ρ "ahead" = some (.int d u) ∧ ρ "lead" = some (.int (S p p) tl)) ∧ Mx s'.heap l n n r (BSK S p d k))
    ?_ (fun s' x => ⟨⟨by walk_at "rho", by walk_at "rho", by walk_at "rho", by walk_at "rho"⟩, (M3.ext x).congr fun i j _ _ => by unfold BSK; rw [if_neg fun z => absurd z.2 (Nat.not_lt.2 z.1)]⟩) ?_ ?_)
  · intro k ρ s₄ s₅ zz4 _ F4 y
    obtain ⟨h, m⟩ := zz4
    exact ⟨h, m.sys F4 y⟩
  · intro k ρ₁ ρ₂ s₄ hk zz5 zz6 F4 c34
    obtain ⟨⟨h1, h2, h3, h4⟩, M4⟩ := zz5
    obtain ⟨_, ⟨t₁, rfl⟩, rfl⟩ := zz6
    have c14 := c13Z.trans c34
    have up4 := ups c14
    have ex : ((p : Int) + 1 + k) = ((p + 1 + k : Nat) : Int) := by omega
    rw [ex] at F4
    have hx : p + 1 + k < n := by omega
    refine Seq_wp2 fun KK hKK => (AssignN_wp (P := IsI (S (p + 1 + k) p)) N F4 (Ev.castI (Ev.mat (i := p + 1 + k) (j := p) (by walk_at "ev") M4 (by walk_at "ev") (by walk_at "ev") hx hp (by (with_reducible exact Nat.le_trans (by assumption) (by decide))) (by (with_reducible exact Nat.le_trans (by assumption) (by decide)))) (by unfold BSK; rw [if_neg (by omega)])) t6 ?_)
    intro v₅ s₅ s₆ zz3 x5 _ F6 c46
    obtain ⟨tf, rfl⟩ := zz3
    refine hKK _ ?_
    have c46' : Chg (Own env) s₄ s₆ := c46.mono fun _ => TgA.own
    have M6 := M4.chg c46' fun b f => M4.notOwn F4 f
    have c16 := c14.trans (c46'.mono fun b z => .inl z)
    have up6 := ups c16
    refine Seq_wp (For_wp (mods := Z) (n := n - (p + 1)) hh' N F6 (tgN t7) (ItEv.rangeN (lo := (p : Int) + 1) (hi := n) (k := n - (p + 1)) (Ev.range2 (by walk_at "bi") (Ev.add (by walk_at "ev") (by walk_at "ev")) (Ev.lenC (by walk_at "bi") (by walk_at "ev") M6.outer (by (with_reducible exact Mine.castUp (by assumption) (by decide))))) (by omega) (by omega) (by omega) (by (with_reducible exact Mine.castUp (by assumption) (by decide))) (by (with_reducible exact Mine.castLo (by decide))))
      (fun _ h => h.elim) (hexZ c16) (fun b z => .inl z)
      (fun j ρ s' => (ρ "a" = some (.ref l) ∧ ρ "step" = some (.int p t) ∧ ρ "ahead" = some (.int d u) ∧ ρ "lead" = some (.int (S p p) tl) ∧ ρ "row" = some (.int ((p + 1 + k : Nat) : Int) t₁) ∧ ρ "first" = some (.int (S (p + 1 + k) p) tf)) ∧ Mx s'.heap l n n r (BSI S p d k j))
      ?_ (fun s' x => ⟨⟨by walk_at "rho", by walk_at "rho", by walk_at "rho", by walk_at "rho", by walk_at "rho", by walk_at "rho"⟩, (M6.ext x).congr fun i j _ _ => by unfold BSI; rw [if_neg fun z => absurd z.2.2 (Nat.not_lt.2 z.2.1)]⟩) ?_ ?_)
    · intro k ρ s₄ s₅ zz4 _ F4 y
      obtain ⟨h, m⟩ := zz4
      exact ⟨h, m.sys F4 y⟩
    · intro j ρ₇ ρ₈ s₇ hj zz5 zz6 F7 c67
      obtain ⟨⟨g1, g2, g3, g4, g5, g6⟩, M7⟩ := zz5
      obtain ⟨_, ⟨tc, rfl⟩, rfl⟩ := zz6
      have up7 := ups (c16.trans c67)
      have ey : ((p : Int) + 1 + j) = ((p + 1 + j : Nat) : Int) := by omega
      rw [ey] at F7
      have hy : p + 1 + j < n := by omega
      have e1 : BSI S p d k j (p + 1 + k) (p + 1 + j) = S (p + 1 + k) (p + 1 + j) := by unfold BSI BSK; rw [if_neg fun z => Nat.lt_irrefl _ z.2.2, if_neg fun z => Nat.lt_irrefl _ z.2]
      have e2 : BSI S p d k j p (p + 1 + j) = S p (p + 1 + j) := by unfold BSI BSK; rw [if_neg fun z => Nat.ne_of_lt (plk p k) z.1, if_neg fun z => Nat.lt_irrefl _ z.1]
      refine Seq_wp2 fun KK hKK => (AsgSub_wp (R := IsI (bsE S p d (p + 1 + k) (p + 1 + j))) (l := r (p + 1 + k)) ?_ ?_ (by walk_at "ev") (M7.row _ hx) (by (with_reducible exact Int.natCast_nonneg _)) (by (with_reducible exact Int.ofNat_lt.2 (by assumption))) (by (with_reducible exact Nat.le_trans (by assumption) (by decide))) ?_)
      · refine Ev.fdiv (Ev.sub (Ev.mul (Ev.castI (Ev.mat (i := p + 1 + k) (j := p + 1 + j) (by walk_at "ev") M7 (by walk_at "ev") (by walk_at "ev") hx hy (by (with_reducible exact Nat.le_trans (by assumption) (by decide))) (by (with_reducible exact Nat.le_trans (by assumption) (by decide)))) e1) (by walk_at "ev") (mulOk_l (hS _ _ hx hy)))
          (Ev.mul (by walk_at "ev") (Ev.castI (Ev.mat (i := p) (j := p + 1 + j) (by walk_at "ev") M7 (by walk_at "ev") (by walk_at "ev") hp hy (by (with_reducible exact Nat.le_trans (by assumption) (by decide))) (by (with_reducible exact Nat.le_trans (by assumption) (by decide)))) e2) (mulOk_l (hS _ _ hx hp)))) (by walk_at "ev") hd0 (noPy hdb)
      · exact Ev.item (k := ((p + 1 + k : Nat) : Int)) (by walk_at "ev") (by walk_at "ev") M7.outer (by (with_reducible exact Int.natCast_nonneg _)) (by (with_reducible exact Int.ofNat_lt.2 (by assumption))) (by (with_reducible exact Mine.castUp (by assumption) (by decide)))
      intro v₁₀ s₁₀ s₁₁ s₁₂ zz4 _ _ L12 _ c712
      obtain ⟨tv, rfl⟩ := zz4
      refine hKK _ ?_
      have nO : ¬ Own env (r (p + 1 + k)) := (M7.row _ hx).notOwn F7
      have L12' : LI s₁₂.heap (r (p + 1 + k)) n (BSI S p d k (j + 1) (p + 1 + k)) := L12.imp fun y v hj h => by
        simp only [Int.toNat_natCast] at h
        by_cases e2 : y = p + 1 + j
        · rw [if_pos e2] at h; subst e2; unfold BSI; rw [if_pos (by omega)]; exact ⟨_, h⟩
        · rw [if_neg e2] at h
          obtain ⟨t', e⟩ := h
          refine ⟨t', e.trans ?_⟩
          congr 1
          unfold BSI
          by_cases e3 : p < y ∧ y < p + 1 + j
          · rw [if_pos (by omega), if_pos (by omega)]
          · rw [if_neg (by omega), if_neg (by omega)]
      refine wpAny_execs_nil ⟨c712.mono fun b e => .inr (.inr ⟨_, hx, e⟩), _, F7.chg c712 fun b hb e => nO (e ▸ hb), ⟨by walk_at "rho", by walk_at "rho", by walk_at "rho", by walk_at "rho", by walk_at "rho", by walk_at "rho"⟩,
        (M7.setRow hx c712 L12').congr fun x y hx' hy' => ?_⟩
      unfold setF
      by_cases e : x = p + 1 + k
      · subst e; rw [if_pos rfl]
      · rw [if_neg e]; unfold BSI; rw [if_neg (by omega), if_neg (by omega)]
    · intro ρ₇ s₇ zz2 F7 c67
      obtain ⟨⟨g1, g2, g3, g4, g5, g6⟩, M7⟩ := zz2
      have up7 := ups (c16.trans c67)
      refine Seq_wp2 fun KK hKK => (AsgSub_wp (R := IsI 0) (l := r (p + 1 + k)) (by walk_at "ev") ?_ (by walk_at "ev") (M7.row _ hx) (by (with_reducible exact Int.natCast_nonneg _)) (by (with_reducible exact Int.ofNat_lt.2 (by assumption))) (by (with_reducible exact Nat.le_trans (by assumption) (by decide))) ?_)
      · exact Ev.item (k := ((p + 1 + k : Nat) : Int)) (by walk_at "ev") (by walk_at "ev") M7.outer (by (with_reducible exact Int.natCast_nonneg _)) (by (with_reducible exact Int.ofNat_lt.2 (by assumption))) (by (with_reducible exact Mine.castUp (by assumption) (by decide)))
      intro v₁₀ s₁₀ s₁₁ s₁₂ zz4 _ _ L12 _ c712
      obtain ⟨tv, rfl⟩ := zz4
      refine hKK _ ?_
      have nO : ¬ Own env (r (p + 1 + k)) := (M7.row _ hx).notOwn F7
      have L12' : LI s₁₂.heap (r (p + 1 + k)) n (BSK S p d (k + 1) (p + 1 + k)) := L12.imp fun y v hj h => by
        simp only [Int.toNat_natCast] at h
        have eR : BSK S p d (k + 1) (p + 1 + k) y = if y = p then 0 else if p < y then bsE S p d (p + 1 + k) y else S (p + 1 + k) y := by
          unfold BSK; rw [if_pos (show p < p + 1 + k ∧ p + 1 + k < p + 1 + (k + 1) from ⟨plk p k, Nat.lt_succ_self _⟩)]
        rw [eR]
        by_cases e2 : y = p
        · rw [if_pos e2] at h; rw [if_pos e2]; exact ⟨_, h⟩
        · rw [if_neg e2] at h; rw [if_neg e2]
          obtain ⟨t', e⟩ := h
          refine ⟨t', e.trans ?_⟩
          congr 1
          unfold BSI BSK
          by_cases e3 : p < y
          · rw [if_pos (show p + 1 + k = p + 1 + k ∧ p < y ∧ y < p + 1 + (n - (p + 1)) by omega), if_pos e3]
          · rw [if_neg (show ¬ (p + 1 + k = p + 1 + k ∧ p < y ∧ y < p + 1 + (n - (p + 1))) by omega), if_neg (show ¬ (p < p + 1 + k ∧ p + 1 + k < p + 1 + k) from fun z => Nat.lt_irrefl _ z.2), if_neg e3]
      refine wpAny_execs_nil ⟨((c46'.mono fun b z => .inl z).trans c67).trans (c712.mono fun b e => .inr (.inr ⟨_, hx, e⟩)), _, F7.chg c712 fun b hb e => nO (e ▸ hb), ⟨by walk_at "rho", by walk_at "rho", by walk_at "rho", by walk_at "rho"⟩,
        (M7.setRow hx c712 L12').congr fun x y hx' hy' => ?_⟩
      unfold setF
      by_cases e : x = p + 1 + k
      · subst e; rw [if_pos rfl]
      · have eB : BSI S p d k (n - (p + 1)) x y = BSK S p d k x y := by unfold BSI; rw [if_neg (fun z => e z.1)]
        rw [if_neg e, eB]
        unfold BSK
        by_cases e3 : p < x ∧ x < p + 1 + k
        · rw [if_pos e3, if_pos (show p < x ∧ x < p + 1 + (k + 1) by omega)]
        · rw [if_neg e3, if_neg (show ¬ (p < x ∧ x < p + 1 + (k + 1)) by omega)]
  · intro ρ₁ s₄ zz2 F4 c34
    obtain ⟨h, M4⟩ := zz2
    refine wpAny_execs_nil ?_
    refine q _ M4 ((Ext.any (Z := Foot l n r) X).transE (c13Z.trans c34) fun b hb z => z.elim (fun z => absurd (own b z) hb) fun z => z)


end Mine
end
-- determinant
section
open PySem PySem.W PyProof.Rows PySem.Calls
set_option Elab.async false
set_option maxRecDepth 100000
set_option linter.unusedVariables false
set_option maxHeartbeats 1000000
namespace Mine
variable {w : World} {A : Around} {s : Shared} {hb : Heap}

/-- the loop of determinant, with the sizes it stays under; no rows are ever exchanged -/
inductive DetRun (n : Nat) (D : Int) : Nat → (Nat → Nat → Int) → Int → Prop
  | fin {p S d} : n ≤ p → d = D → DetRun n D p S d
  | zero {p S d} : p < n → pivR S p (n - p) = none → D = 0 → DetRun n D p S d
  | step {p S d} : p < n → S p p ≠ 0 → d ≠ 0 → d.natAbs < 2 ^ 63 → (∀ x y, x < n → y < n → (S x y).natAbs < 2 ^ 63) → DetRun n D (p + 1) (BSK S p d (n - (p + 1))) (S p p) → DetRun n D p S d
theorem DetRun.inv {n p : Nat} {D d : Int} {S : Nat → Nat → Int} (hp : p < n) (h : DetRun n D p S d) : (pivR S p (n - p) = none ∧ D = 0) ∨ (S p p ≠ 0 ∧ d ≠ 0 ∧ d.natAbs < 2 ^ 63 ∧ (∀ x y, x < n → y < n → (S x y).natAbs < 2 ^ 63) ∧ DetRun n D (p + 1) (BSK S p d (n - (p + 1))) (S p p)) := by
  cases h with
  | fin h => exact absurd hp (Nat.not_lt.2 h)
  | zero _ hz h0 => exact .inl ⟨hz, h0⟩
  | step _ a b c d e => exact .inr ⟨a, b, c, d, e⟩
theorem DetRun.last {n p : Nat} {D d : Int} {S : Nat → Nat → Int} (hp : n ≤ p) (h : DetRun n D p S d) : d = D := by
  cases h with
  | fin _ e => exact e
  | zero h => exact absurd h (Nat.not_lt.2 hp)
  | step h => exact absurd h (Nat.not_lt.2 hp)
theorem pivR_pp {S p} (h : S p p ≠ 0) : ∀ m, pivR S p (m + 1) = some p
  | 0 => by show (none : Option Nat).or _ = _; rw [Nat.add_zero, if_pos h]; rfl
  | m + 1 => by show (pivR S p (m + 1)).or _ = some p; rw [pivR_pp h m]; rfl
theorem determinant_ev {l : Addr} {n : Nat} {r : Nat → Addr} {S : Nat → Nat → Int} {D : Int} (a : Am (KK w) hb) (up : Up hb s) (hd : A.depth < 800) (hu : A.units < 9000) (hh : A.handled = none) (hn : n ≤ 100)
    (hM : Mx s.heap l n n r S) (hD : DetRun n D 0 S 1) (hDb : D.natAbs < 2 ^ 63) :
    Ev (Mw w) A (call (.ref 99) [.ref l]) s (IsI D) := by
  intro s₀ x0 Q q
  refine call_K1 (fa := 99) (binds := [(Str.ofString "a", .ref l)]) a (up.ext x0) (by show A.depth < 1000; (with_reducible exact Nat.lt_of_lt_of_le (by assumption) (by decide))) rfl rfl rfl rfl rfl rfl (by decide) rfl rfl ?_
  intro env s₁ hE N F X own
  have up1 := (up.ext x0).ext X
  have l1 : ldOk env "a" = true := ld_of hE rfl
  have l2 : ldOk env "found" = true := ld_of hE rfl
  have l3 : ldOk env "sign" = true := ld_of hE rfl
  have l4 : ldOk env "ahead" = true := ld_of hE rfl
  have l5 : ldOk env "step" = true := ld_of hE rfl
  have l6 : ldOk env "row" = true := ld_of hE rfl
  have t2 : stOk env "found" = true := st_of hE rfl
  have t3 : stOk env "sign" = true := st_of hE rfl
  have t4 : stOk env "ahead" = true := st_of hE rfl
  have t5 : stOk env "step" = true := st_of hE rfl
  have t6 : stOk env "row" = true := st_of hE rfl
  have c1 : HasC env "a" := hasC_of hE rfl
  have gr : env.kindOf "range" = some .globalImplicit := kd_of hE rfl
  have gl : env.kindOf "len" = some .globalImplicit := kd_of hE rfl
  have g1 : env.kindOf "pivot_row" = some .globalImplicit := kd_of hE rfl
  have g2 : env.kindOf "bareiss_step" = some .globalImplicit := kd_of hE rfl
  have hh' : (A.deeper env).handled = none := hh
  have hd9 : (A.deeper env).depth < 900 := by show A.depth + 1 < 900; omega
  have M1 : Mx s₁.heap l n n r S := (hM.ext x0).ext X
  have nwO : ∀ b, Own env b → hb.get? b = none := fun b z => by
    cases e : hb.get? b with
    | none => rfl
    | some o => have := own b z; rw [up.ext x0 b o e] at this; cases this
  have hbn : ∀ {b}, s₁.heap.get? b = none → hb.get? b = none := fun {b} h => by
    cases e : hb.get? b with
    | none => rfl
    | some o => rw [up1 b o e] at h; cases h
  -- the shape
  refine Seq_wp (If_wp (c := false) ?_ (fun h => nomatch h) ?_)
  · refine (show (!decide (([] : List Int) = [])) = false from by simp) ▸ Tst.neL ?_ (Ev.nilL.imp fun v s' ⟨a, e, _, h⟩ _ => by subst e; exact nilLN h) (by show A.units + 3 + 64 < 9900; omega)
    refine (Ev.compF (n := n) (fun _ => false) (fun i v => v = .ref (r i)) hh' N F (by walk_at "cok") (ItEv.list (l := l) (by walk_at "ev") M1.outer) .N (fun C => tgN (by walk_at "st")) rfl (by (with_reducible exact Nat.le_trans (by assumption) (by decide))) ?_).imp ?_
    · intro C i ρ₂ s₂ hi x2 zz6 F2 N2
      obtain ⟨_, rfl, rfl⟩ := zz6
      have up2 := up1.ext x2
      refine ⟨?_, fun h => nomatch h⟩
      refine (show ((n : Int) != n) = false from by simp) ▸ Tst.ne (Ev.lenC (by walk_at "bi") (by walk_at "ev") ((M1.ext x2).row i hi) (by (with_reducible exact Mine.castUp (by assumption) (by decide)))) (Ev.lenC (by walk_at "bi") (by walk_at "ev") (M1.ext x2).outer (by (with_reducible exact Mine.castUp (by assumption) (by decide))))
    · intro v s' zz2 _
      obtain ⟨D, ys, rfl, _, hl, hp⟩ := zz2
      rw [show (List.range n).filter (fun _ => false) = [] from by simp] at hp
      cases hp
      exact nilLN (by simpa using hl)
  intro _ s₂ x2
  refine wpAny_execs_nil ?_
  have F2 := F.ext x2
  have up2 := up1.ext x2
  refine Seq_wp2 fun KK hKK => (Assign3s_wp (P := fun vs s' => ∃ v1 v2 v3, vs = [v1, v2, v3] ∧ NewM s₁ n S v1 s' ∧ (∃ t, v2 = .int 1 t) ∧ (∃ t, v3 = .int 1 t)) hh' N F2 ?_ ?_ ?_ t2 t3 t4 (by rw [hE]; rfl) ?_)
  · refine EvL.imp (EvL.three (P := NewM s₁ n S) (R := IsI 1) (S := IsI 1) ?_ (by walk_at "ev") (by walk_at "ev") NewM.mono IsI.mono IsI.mono) fun vs s' ⟨v1, v2, v3, e, a, b, c⟩ _ => ⟨v1, v2, v3, e, a, b, c⟩
    refine (Ev.compR (n := n) (m := n) S hh' N F2 (by walk_at "cok") (ItEv.list (l := l) (by walk_at "ev") (M1.ext x2).outer) .N (fun C => tgN (by walk_at "st")) rfl (by (with_reducible exact Nat.le_trans (by assumption) (by decide))) ?_).imp ?_
    · intro C i ρ₂ s₃ hi x3 zz6 F3 N3
      obtain ⟨_, rfl, rfl⟩ := zz6
      have up3 := up2.ext x3
      exact Ev.listC (by walk_at "bi") (by walk_at "ev") (((M1.ext x2).ext x3).row i hi) hn
    · intro v s' zz2 _
      obtain ⟨a, r, e, m, f⟩ := zz2
      exact ⟨a, r, e, m, fun b hb => x2.2 b (f b hb)⟩
  · (intro vs s' zz2; obtain ⟨v1, v2, v3, rfl, _⟩ := zz2); rfl
  · intro vs s₂ s₃ zz3 x
    obtain ⟨v1, v2, v3, e, a, b, c⟩ := zz3
    exact ⟨v1, v2, v3, e, NewM.mono _ _ _ a x, b, c⟩
  intro _ _ _ s₃ s₄ zz5 x23 c34 F4 c24
  obtain ⟨v1, v2, v3, e, ⟨lf, rf, rfl, mF, ff⟩, ⟨ts, rfl⟩, ⟨ta, rfl⟩⟩ := zz5
  refine hKK _ ?_
  cases e
  have M4 := mF.chg c34 fun b f => mF.notOwn (F2.ext x23) f
  have c14 : Chg (Own env) s₁ s₄ := (Ext.any (Z := Own env) x2).trans c24
  let Z : Addr → Prop := fun b => Own env b ∨ Foot lf n rf b
  have nf : ∀ b, Foot lf n rf b → hb.get? b = none := fun b f => hbn (ff b f)
  have up4 : Up hb s₄ := up1.chg c14 nwO
  have ups : ∀ {s'}, Chg Z s₄ s' → Up hb s' := fun c => up4.chg c fun b z => z.elim (nwO b) (nf b)
  have lM4 := M1.chg c14 fun b f => M1.notOwn F f
  have fin : ∀ {s'}, Chg Z s₄ s' → Ext s₀ s' := fun c => X.transE (c14.transE c fun b hb z => z.elim id fun f => absurd (ff b f) hb) fun b hb z => absurd (own b z) hb
  refine Seq_wp (For_wp (mods := Z) (n := n) hh' N F4 (tgN t5) (ItEv.rangeN (lo := 0) (hi := n) (k := n) (Ev.range1 (by walk_at "bi") (Ev.lenC (by walk_at "bi") (by walk_at "ev") lM4.outer (by (with_reducible exact Mine.castUp (by assumption) (by decide))))) (by omega) (by decide) (by decide) (by (with_reducible exact Mine.castUp (by assumption) (by decide))) (by (with_reducible exact Mine.castLo (by decide))))
    (fun _ h => h.elim) (fun b z => z.elim (fun z => F4.exOwn z) fun f => M4.exF f) (fun b z => .inl z)
    (fun k ρ s' => (ρ "found" = some (.ref lf) ∧ ρ "sign" = some (.int 1 ts)) ∧ ∃ T d td, Mx s'.heap lf n n rf T ∧ ρ "ahead" = some (.int d td) ∧ DetRun n D k T d)
    ?_ (fun s' x => ⟨⟨by walk_at "rho", by walk_at "rho"⟩, S, 1, ta, M4.ext x, by walk_at "rho", hD⟩) ?_ ?_)
  · intro k ρ s₅ s₆ zz4 _ F5 y
    obtain ⟨h, T, d, td, m, r⟩ := zz4
    exact ⟨h, T, d, td, m.sys F5 y, r⟩
  · intro k ρ₁ ρ₂ s₅ hk zz5 zz6 F5 c45
    obtain ⟨⟨h1, h2⟩, T, d, td, M5, h3, hR⟩ := zz5
    obtain ⟨_, ⟨t₁, rfl⟩, rfl⟩ := zz6
    have e0 : ((0 : Int) + (k : Int)) = ((k : Nat) : Int) := by omega
    rw [e0] at F5
    have up5 := ups c45
    refine Seq_wp2 fun KK hKK => (AssignN_wp (P := fun v s' => IsOpt2 v (pivR T k (n - k))) N F5 (Ev.callG nm_pivot_row fn_pivot_row a up5 N g1 (EvL.consV (by walk_at "ev") (EvL.consV (by walk_at "ev") .nil)) ?_) t6 ?_)
    · rintro vs s' rfl x
      exact pivot_row_ev (m := n) a (up5.ext x) hd9 hh' hn hk (M5.ext x)
    rintro v₆ s₆ s₇ hv x56 c67 F7 c57
    refine hKK _ ?_
    have c57' : Chg (Own env) s₅ s₇ := c57.mono fun _ => TgA.own
    have M7 := M5.chg c57' fun b f => M5.notOwn F5 f
    have c57Z : Chg Z s₅ s₇ := c57'.mono fun b z => .inl z
    have c47 : Chg Z s₄ s₇ := c45.trans c57Z
    have up7 := ups c47
    obtain ⟨hz, hD0⟩ | ⟨hpp, hd0, hdb, hTb, hR'⟩ := hR.inv hk
    · rw [hz] at hv; cases hv
      refine Seq_wp (If_wp (c := true) (Tst.isNone (v := .none) (by walk_at "ev") (by walk_at "ev") rfl) ?_ (fun h => nomatch h))
      intro _ s₈ x8
      refine Seq_wp (Ret_wp (P := IsI 0) (by walk_at "ev") ?_)
      intro v s₉ zz2 x9
      obtain ⟨tv, rfl⟩ := zz2
      refine ⟨c57Z.trans (Ext.any (x8.trans x9)), ?_⟩
      exact q _ _ ⟨tv, by rw [hD0]; rfl⟩ (fin (c47.trans (Ext.any (x8.trans x9))))
    · have hv' : IsOpt2 v₆ (some k) := by
        have := pivR_pp hpp (n - k - 1)
        rw [show n - k - 1 + 1 = n - k from by omega] at this
        rwa [this] at hv
      obtain ⟨tv, rfl⟩ := hv'
      refine Seq_wp (If_wp (c := false) (Tst.isNone (v := .int k tv) (by walk_at "ev") (by walk_at "ev") rfl) (fun h => nomatch h) ?_)
      intro _ s₈ x8
      refine wpAny_execs_nil ?_
      have F8 := F7.ext x8
      refine Seq_wp (If_wp (c := false) ((show ((k : Int) != k) = false from by simp) ▸ Tst.ne (by walk_at "ev") (by walk_at "ev")) (fun h => nomatch h) ?_)
      intro _ s₉ x9
      refine wpAny_execs_nil ?_
      have F9 := F8.ext x9
      have x79 := x8.trans x9
      have c49 : Chg Z s₄ s₉ := c47.trans (Ext.any x79)
      have up9 := ups c49
      have M9 := M7.ext x79
      refine Seq_wp (Expr_wp (callG_wp nm_bareiss_step fn_bareiss_step a up9 N g2 (EvL.consV (by walk_at "ev") (EvL.consV (by walk_at "ev") (EvL.consV (by walk_at "ev") .nil))) ?_) (by rw [hE]; rfl))
      rintro vs s₁₀ rfl x10
      refine bareiss_step_wp a (up9.ext x10) hd9 hh' hn (M9.ext x10) nf hk hd0 hdb hTb ?_
      intro s₁₁ M11 c1011
      refine ⟨rfl, ?_⟩
      have F11 : Fm env s₁₁.heap _ := (F9.ext x10).chg c1011 fun b hb f => (M9.ext x10).notOwn (F9.ext x10) f hb
      have c5_11 : Chg Z s₅ s₁₁ := (c57Z.trans (Ext.any (x79.trans x10))).trans (c1011.mono fun b f => .inr f)
      have c4_11 : Chg Z s₄ s₁₁ := c45.trans c5_11
      have up11 := ups c4_11
      refine Seq_wp2 fun KK hKK => (AssignN_wp (P := IsI (T k k)) N F11 (Ev.castI (Ev.mat (i := k) (j := k) (by walk_at "ev") M11 (by walk_at "ev") (by walk_at "ev") hk hk (by (with_reducible exact Nat.le_trans (by assumption) (by decide))) (by (with_reducible exact Nat.le_trans (by assumption) (by decide)))) (by unfold BSK; rw [if_neg (by omega)])) t4 ?_)
      intro v s₁₂ s₁₃ zz3 _ _ F13 c11_13
      obtain ⟨t', rfl⟩ := zz3
      refine hKK _ ?_
      have c11_13' : Chg (Own env) s₁₁ s₁₃ := c11_13.mono fun _ => TgA.own
      refine wpAny_execs_nil ⟨c5_11.trans (c11_13'.mono fun b z => .inl z), _, F13, ⟨by walk_at "rho", by walk_at "rho"⟩, _, _, t', M11.chg c11_13' fun b f => M11.notOwn F11 f, by walk_at "rho", hR'⟩
  · intro ρ₁ s₅ zz2 F5 c45
    obtain ⟨⟨h1, h2⟩, T, d, td, M5, h3, hR⟩ := zz2
    have ed : d = D := hR.last (Nat.le_refl _)
    subst ed
    refine Seq_wp (Ret_wp (P := IsI d) (Ev.castI (Ev.mul (a := 1) (b := d) (by walk_at "ev") (by walk_at "ev") (mulOk_l (by decide))) (by omega)) ?_)
    intro v s₆ zz2 x6
    obtain ⟨tv, rfl⟩ := zz2
    exact q _ _ ⟨tv, rfl⟩ (fin (c45.trans (Ext.any x6)))


end Mine
end
-- leading_minors
section
open PySem PySem.W PyProof.Rows PySem.Calls
set_option Elab.async false
set_option maxRecDepth 100000
set_option linter.unusedVariables false
set_option maxHeartbeats 1000000
namespace Mine
variable {w : World} {A : Around} {s : Shared} {hb : Heap}

theorem leading_minors_ev {l : Addr} {n : Nat} {r : Nat → Addr} {S : Nat → Nat → Int} {D : Nat → Int} (a : Am (KK w) hb) (up : Up hb s) (hd : A.depth < 700) (hu : A.units < 8900) (hh : A.handled = none) (hn : n ≤ 90)
    (hM : Mx s.heap l n n r S) (hD : ∀ k, k < n → DetRun (k + 1) (D k) 0 S 1) (hDb : ∀ k, k < n → (D k).natAbs < 2 ^ 63) :
    Ev (Mw w) A (call (.ref 104) [.ref l]) s (fun v s' => ∃ q, v = .ref q ∧ s.heap.get? q = none ∧ LI s'.heap q n D) := by
  intro s₀ x0 Q q
  refine call_K1 (fa := 104) (binds := [(Str.ofString "a", .ref l)]) a (up.ext x0) (by show A.depth < 1000; (with_reducible exact Nat.lt_of_lt_of_le (by assumption) (by decide))) rfl rfl rfl rfl rfl rfl (by decide) rfl rfl ?_
  intro env s₁ hE N F X own
  have up1 := (up.ext x0).ext X
  have l1 : ldOk env "a" = true := ld_of hE rfl
  have c1 : HasC env "a" := hasC_of hE rfl
  have gr : env.kindOf "range" = some .globalImplicit := kd_of hE rfl
  have gl : env.kindOf "len" = some .globalImplicit := kd_of hE rfl
  have hh' : (A.deeper env).handled = none := hh
  have hd9 : (A.deeper env).depth < 800 := by show A.depth + 1 < 800; omega
  have hu9 : (A.deeper env).units < 9000 := by show A.units + 3 < 9000; omega
  have M1 : Mx s₁.heap l n n r S := (hM.ext x0).ext X
  clear hE
  refine Seq_wp (Ret_wp (Ev.compV (n := n) (fun i v => ∃ t, v = .int (D i) t) hh' N F (by walk_at "cok")
    (ItEv.rangeN (lo := 1) (hi := (n : Int) + 1) (k := n) (Ev.range2 (by walk_at "bi") (by walk_at "ev") (Ev.add (Ev.lenC (by walk_at "bi") (by walk_at "ev") M1.outer (by (with_reducible exact Mine.castUp (by assumption) (by decide)))) (by walk_at "ev"))) (by omega) (by decide) (by decide) (by omega) (by omega)) .N
    (fun C => tgN (by walk_at "st")) rfl (by (with_reducible exact Nat.le_trans (by assumption) (by decide))) ?_) ?_)
  · intro C i ρ₂ s₂ hi x2 zz6 F2 N2
    obtain ⟨_, ⟨tv, rfl⟩, rfl⟩ := zz6
    have up2 := up1.ext x2
    have M2 := M1.ext x2
    have e0 : ((1 : Int) + (i : Int)) = ((i + 1 : Nat) : Int) := by omega
    rw [e0] at F2
    refine Ev.callG nm_determinant fn_determinant a up2 N2 (by walk_at "gl") (EvL.one (P := fun v s' => ∃ a r, v = .ref a ∧ Mx s'.heap a (i + 1) (i + 1) r S ∧ ∀ b, Foot a (i + 1) r b → s₂.heap.get? b = none) ?_ ?_) ?_
    · refine Ev.compR (n := i + 1) (m := i + 1) S hh' N2 F2 (by walk_at "cok") (ItEv.listNew (P := fun j v => v = .ref (r j)) (Ev.sliceTo (by walk_at "ev") M2.outer (by walk_at "ev") (by (with_reducible exact Nat.succ_le_of_lt (by assumption))) (by (with_reducible exact Nat.le_trans (by assumption) (by decide))))) .N (fun C => tgN (by walk_at "st")) rfl (by omega) ?_
      intro C' j ρ₃ s₃ hj x3 zz6 F3 N3
      obtain ⟨_, rfl, rfl⟩ := zz6
      exact Ev.sliceTo (by walk_at "ev") ((M2.ext x3).row j (by omega)) (by walk_at "ev") (by (with_reducible exact Nat.succ_le_of_lt (by assumption))) (by (with_reducible exact Nat.le_trans (by assumption) (by decide)))
    · intro v s₃ s₄ zz3 x
      obtain ⟨a, r, e, m, f⟩ := zz3
      exact ⟨a, r, e, m.ext x, f⟩
    · intro vs s₃ zz2 x
      obtain ⟨v, rfl, a', r', rfl, m, f⟩ := zz2
      exact determinant_ev a (up2.ext x) hd9 hu9 hh' (by omega) m (hD i hi) (hDb i hi)
  · intro v s' zz2 x
    obtain ⟨D, rfl, hD, L⟩ := zz2
    exact q _ _ ⟨D, rfl, x0.2 _ (X.2 _ hD), L⟩ (X.transE x.any fun b hb z => absurd (own b z) hb)


end Mine
end
-- gcd
section
open PySem PySem.W PyProof.Rows PySem.Calls
set_option Elab.async false
set_option maxRecDepth 100000
set_option linter.unusedVariables false
set_option maxHeartbeats 1000000
namespace Mine
variable {w : World} {A : Around} {s : Shared} {hb : Heap}

theorem gcd_wp {Q : Value → Shared → Prop} {x y : Int} {t u : Tok} (a : Am (KK w) hb) (up : Up hb s) (hd : A.depth < 900) (hh : A.handled = none)
    (q : ∀ tk s', Ext s s' → Q (.int (Int.gcd x y) tk) s') : wpAny (Mw w) A (call (.ref 111) [.int x t, .int y u]) Q (fun _ _ => False) s := by
  refine call_K1 (fa := 111) (binds := [(Str.ofString "a", .int x t), (Str.ofString "b", .int y u)]) a up (by show A.depth < 1000; (with_reducible exact Nat.lt_of_lt_of_le (by assumption) (by decide))) rfl rfl rfl rfl rfl rfl (by decide) rfl rfl ?_
  intro env s₁ hE N F X own
  have la : ldOk env "a" = true := ld_of hE rfl
  have lb : ldOk env "b" = true := ld_of hE rfl
  have sa : stOk env "a" = true := st_of hE rfl
  have sb : stOk env "b" = true := st_of hE rfl
  have gabs : env.kindOf "abs" = some .globalImplicit := kd_of hE rfl
  have hh' : (A.deeper env).handled = none := hh
  refine Seq_wp2 fun KK hKK => (Assign2s_wp hh' N F (.ints2 (a := x.natAbs) (b := y.natAbs) ?_ ?_) ?_ ?_ sa sb (by rw [hE]; rfl) ?_)
  · exact Ev.absC (.boot a (up.ext X) N gabs nb_abs boot_abs (by decide) rfl) (by walk_at "ev")
  · exact Ev.absC (.boot a (up.ext X) N gabs nb_abs boot_abs (by decide) rfl) (by walk_at "ev")
  · (intro vs s' zz2; obtain ⟨t, u, rfl⟩ := zz2); rfl
  · exact fun _ _ _ h _ => h
  intro v₁ v₂ s₂ s₃ zz4 x2 c2 F3 c3
  obtain ⟨t₁, t₂, e⟩ := zz4
  refine hKK _ ?_
  cases e
  have own' : ∀ b, Own env b → s.heap.get? b = none := own
  refine Seq_wp (While_wp (fun n s' => ∃ (i : Nat) (t u : Tok) (ρ : Str → Option Value), Nat.gcd i n = Int.gcd x y ∧ ρ "a" = some (.int i t) ∧ ρ "b" = some (.int n u) ∧ Fm env s'.heap ρ ∧ Ext s s') ?_ y.natAbs
    ⟨x.natAbs, t₁, t₂, _, rfl, by walk_at "rho", by walk_at "rho", F3, X.transE c3 fun b hb z => absurd (own b z) hb⟩)
  intro j s₄ zz2
  obtain ⟨i, t, u, ρ, hg, ha, hb', F4, x4⟩ := zz2
  refine ⟨_, .ne (b := 0) (by walk_at "ev") (by walk_at "ev"), fun hne s₅ x5 => ?_, fun he s₅ x5 => ?_⟩
  · have F5 := F4.ext x5
    have hj : (j : Int) ≠ 0 := by simpa using hne
    refine Seq_wp2 fun KK hKK => (Assign2s_wp hh' N F5 (.ints2 (a := j) (b := (i : Int).fmod j) (by walk_at "ev") (Ev.fmod (by walk_at "ev") (by walk_at "ev") hj)) ?_ ?_ sa sb (by rw [hE]; rfl) ?_)
    · (intro vs s' zz2; obtain ⟨t, u, rfl⟩ := zz2); rfl
    · exact fun _ _ _ h _ => h
    intro v₁ v₂ s₆ s₇ zz4 x6 c6 F7 c7
    obtain ⟨t₃, t₄, e⟩ := zz4
    refine hKK _ ?_
    cases e
    have e1 : (i : Int).fmod j = ((i % j : Nat) : Int) := by rw [Int.fmod_eq_emod_of_nonneg _ (by (with_reducible exact Int.natCast_nonneg _))]; rfl
    exact wpAny_execs_nil ⟨i % j, Nat.mod_lt _ (by omega), j, t₃, t₄, _, by rw [← hg, Nat.gcd_comm i j, Nat.gcd_rec j i, Nat.gcd_comm], by walk_at "rho", by rw [← e1]; walk_at "rho", F7,
      x4.transE (x5.any.trans c7) fun b hb z => absurd (own b z) hb⟩
  · have hj : j = 0 := by simpa using he
    subst hj
    have F5 := F4.ext x5
    refine Seq_wp (Ret_wp (P := IsI i) (by walk_at "ev") ?_)
    intro v s' zz2 x6
    obtain ⟨tk, rfl⟩ := zz2
    have e : i = Int.gcd x y := by rw [← hg]; simp
    rw [e]
    exact q tk s' (x4.trans (x5.trans x6))


end Mine
end
-- law_divides
section
open PySem PySem.W PyProof.Rows PySem.Calls
set_option Elab.async false
set_option maxRecDepth 100000
set_option linter.unusedVariables false
set_option maxHeartbeats 1000000
namespace Mine
variable {w : World} {A : Around} {s : Shared} {hb : Heap}

theorem law_divides_ev {x y : Int} {t u : Tok} (a : Am (KK w) hb) (up : Up hb s) (hd : A.depth < 900) (hh : A.handled = none) (hx : x ≠ 0) :
    Ev (Mw w) A (call (.ref 125) [.int x t, .int y u]) s (IsB (y.fmod x == 0)) := by
  intro s₀ x0 Q q
  refine call_K1 (fa := 125) (binds := [(Str.ofString "one", .int x t), (Str.ofString "other", .int y u)]) a (up.ext x0) (by show A.depth < 1000; (with_reducible exact Nat.lt_of_lt_of_le (by assumption) (by decide))) rfl rfl rfl rfl rfl rfl (by decide) rfl rfl ?_
  intro env s₁ hE N F X own
  have l1 : ldOk env "one" = true := ld_of hE rfl
  have l2 : ldOk env "other" = true := ld_of hE rfl
  clear hE
  refine Seq_wp (Ret_wp (Ev.eqI (Ev.fmod (by walk_at "ev") (by walk_at "ev") hx) (by walk_at "ev")) ?_)
  rintro v s' e x
  exact q _ _ e (X.transE (x.any (Z := Own env)) fun b hb z => absurd (own b z) hb)


end Mine
end
-- law_greatest
section
open PySem PySem.W PyProof.Rows PySem.Calls
set_option Elab.async false
set_option maxRecDepth 100000
set_option linter.unusedVariables false
set_option maxHeartbeats 1000000
namespace Mine
variable {w : World} {A : Around} {s : Shared} {hb : Heap}

theorem fmod_sign {a b : Int} (h : 0 < b) : 0 ≤ a.fmod b := Int.fmod_nonneg_of_pos a h
theorem fmod_half {a b : Int} (hb : b ≠ 0) (hr : a.fmod b ≠ 0) : 2 * (b.fmod (a.fmod b)).natAbs < b.natAbs := by
  have pos : ∀ a b : Int, 0 < b → a.fmod b ≠ 0 → 2 * (b.fmod (a.fmod b)).natAbs < b.natAbs := by
    intro a b h hr
    have h1 := Int.fmod_nonneg_of_pos a h
    have h2 := Int.fmod_lt_of_pos a h
    generalize a.fmod b = r at *
    have hr' : 0 < r := by omega
    have h3 := Int.fmod_nonneg_of_pos b hr'
    have h4 := Int.fmod_lt_of_pos b hr'
    have h5 : b.fmod r = b - r * b.fdiv r := by have := Int.mul_fdiv_add_fmod b r; omega
    have h6 : 1 ≤ b.fdiv r := by
      rw [Int.fdiv_eq_ediv_of_nonneg _ (by (with_reducible assumption))]
      exact (Int.le_ediv_iff_mul_le hr').mpr (by omega)
    have h7 : r * 1 ≤ r * b.fdiv r := Int.mul_le_mul_of_nonneg_left h6 (by (with_reducible assumption))
    omega
  rcases Int.lt_or_gt_of_ne hb with h | h
  · have e : a.fmod b = -((-a).fmod (-b)) := by rw [Int.neg_fmod_neg]; omega
    have e2 : b.fmod (a.fmod b) = -((-b).fmod ((-a).fmod (-b))) := by
      rw [e]
      have := Int.neg_fmod_neg (a := b) (b := ((-a).fmod (-b)))
      have := Int.neg_fmod_neg (a := -b) (b := ((-a).fmod (-b)))
      rw [Int.neg_neg] at this
      (with_reducible assumption)
    have := pos (-a) (-b) (by omega) (by omega)
    omega
  · exact pos a b h hr
theorem gcd_fmod {a b : Int} : Int.gcd b (a.fmod b) = Int.gcd a b := by
  have e : a.fmod b = a - a.fdiv b * b := by have := Int.mul_fdiv_add_fmod a b; rw [Int.mul_comm]; omega
  rw [e, Int.gcd_comm a b]
  exact Int.gcd_sub_mul_right_right ..
/-- one call deeper -/
theorem law_greatest_one {x y : Int} {t u : Tok} (a : Am (KK w) hb) (up : Up hb s) (hd : A.depth < 1000) (hh : A.handled = none)
    (rec : y ≠ 0 → ∀ env s' t u, Ext s s' → Up hb s' → Ev (Mw w) (A.deeper env) (call (.ref 132) [.int y t, .int (x.fmod y) u]) s' (IsI (Int.gcd y (x.fmod y)))) :
    Ev (Mw w) A (call (.ref 132) [.int x t, .int y u]) s (IsI (Int.gcd x y)) := by
  intro s₀ x0 Q q
  refine call_K1 (fa := 132) (binds := [(Str.ofString "one", .int x t), (Str.ofString "other", .int y u)]) a (up.ext x0) (by show A.depth < 1000; (with_reducible assumption)) rfl rfl rfl rfl rfl rfl (by decide) rfl rfl ?_
  intro env s₁ hE N F X own
  have up1 := (up.ext x0).ext X
  have l1 : ldOk env "one" = true := ld_of hE rfl
  have l2 : ldOk env "other" = true := ld_of hE rfl
  have ga : env.kindOf "abs" = some .globalImplicit := kd_of hE rfl
  have gg : env.kindOf "_law_greatest" = some .globalImplicit := kd_of hE rfl
  clear hE
  refine Seq_wp (Ret_wp (P := IsI (Int.gcd x y)) (Ev.ite (c := y == 0) (Tst.eq (by walk_at "ev") (by walk_at "ev")) ?_ ?_) ?_)
  · intro h
    have : y = 0 := by simpa using h
    subst this
    exact Ev.castI (Ev.absC (by walk_at "bi") (by walk_at "ev")) (by simp)
  · intro h
    have hy : y ≠ 0 := by simpa using h
    refine Ev.callG nm_law_greatest fn_law_greatest a up1 N gg (EvL.two (P := IsI y) (R := IsI (x.fmod y)) (by walk_at "ev") (Ev.fmod (by walk_at "ev") (by walk_at "ev") hy) IsI.mono IsI.mono) ?_
    intro vs s' zz2 x2
    obtain ⟨_, _, rfl, ⟨t1, rfl⟩, ⟨t2, rfl⟩⟩ := zz2
    exact Ev.castI (rec hy env s' t1 t2 (x0.trans (X.trans x2)) (up1.ext x2)) (by rw [gcd_fmod])
  · rintro v s' e x
    exact q _ _ e (X.transE (x.any (Z := Own env)) fun b hb z => absurd (own b z) hb)
theorem law_greatest_ev : ∀ (k : Nat) {x y : Int} {t u : Tok} {A : Around} {s : Shared} (a : Am (KK w) hb) (up : Up hb s) (hd : A.depth + 2 * k + 2 < 1000) (hh : A.handled = none) (hy : y.natAbs < 2 ^ k),
    Ev (Mw w) A (call (.ref 132) [.int x t, .int y u]) s (IsI (Int.gcd x y))
  | 0, x, y, t, u, A, s, a, up, hd, hh, hy => law_greatest_one a up (by omega) hh fun h => absurd hy (by omega)
  | k + 1, x, y, t, u, A, s, a, up, hd, hh, hy => law_greatest_one a up (by omega) hh fun h env s' t' u' x' up' =>
      law_greatest_one a up' (by show A.depth + 1 < 1000; omega) hh fun h2 env2 s'' t'' u'' x'' up'' =>
        law_greatest_ev k a up'' (by show A.depth + 1 + 1 + 2 * k + 2 < 1000; omega) hh (by
          have := fmod_half h h2
          rw [Nat.pow_succ] at hy
          omega)


end Mine
end
-- law_draw
section
open PySem PySem.W PyProof.Rows PySem.Calls
set_option Elab.async false
set_option maxRecDepth 100000
set_option linter.unusedVariables false
set_option maxHeartbeats 1000000
namespace Mine
variable {w : World} {A : Around} {s : Shared} {hb : Heap}

noncomputable def drawT : List Int := [1, 3, 5, 5, 2, 6, 2]
noncomputable def draw (f : Nat → Int) (m k : Nat) (many : Int) : Int := (if k < m then ((f k).natAbs : Int) else drawT.getD (k % 7) 0).fmod many
noncomputable def ConstV (vs : List Value) : Prop := vs.length = 7 ∧ ∀ (j : Nat) (v : Value), vs[j]? = some v → ∃ t, v = .int (drawT.getD j 0) t
noncomputable def PoolP (lc : Addr) (k : Nat) (j : Nat) (v : Value) : Prop := (j = 0 → v = .ref lc) ∧ (j = 1 → ∃ t, v = .int k t)
theorem law_draw_wp {Q : Value → Shared → Prop} {lp lc : Addr} {m k : Nat} {f : Nat → Int} {many : Int} {t : Tok} (a : Am (KK w) hb) (up : Up hb s) (hd : A.depth < 900) (hh : A.handled = none) (hm : m ≤ 100) (hk : k ≤ 1000)
    (L : LV s.heap lp 2 (PoolP lc k)) (C : LI s.heap lc m f) (nw : hb.get? lp = none) (hmany : many ≠ 0)
    (q : ∀ v s', (∃ t, v = .int (draw f m k many) t) → LV s'.heap lp 2 (PoolP lc (k + 1)) → Chg (fun b => b = lp) s s' → Q v s') :
    wpAny (Mw w) A (call (.ref 118) [.ref lp, .int many t]) Q (fun _ _ => False) s := by
  refine call_K1 (fa := 118) (binds := [(Str.ofString "pool", .ref lp), (Str.ofString "many", .int many t)]) a up (by show A.depth < 1000; (with_reducible exact Nat.lt_of_lt_of_le (by assumption) (by decide))) rfl rfl rfl rfl rfl rfl (by decide) rfl rfl ?_
  intro env s₁ hE N F X own
  have up1 := up.ext X
  have l1 : ldOk env "pool" = true := ld_of hE rfl
  have l2 : ldOk env "many" = true := ld_of hE rfl
  have l3 : ldOk env "spot" = true := ld_of hE rfl
  have t3 : stOk env "spot" = true := st_of hE rfl
  have gl : env.kindOf "len" = some .globalImplicit := kd_of hE rfl
  have ga : env.kindOf "abs" = some .globalImplicit := kd_of hE rfl
  clear hE
  have L1 := L.ext X
  have C1 := C.ext X
  have nwO : ∀ b, Own env b → hb.get? b = none := fun b z => by
    cases e : hb.get? b with
    | none => rfl
    | some o => have := own b z; rw [up b o e] at this; cases this
  -- spot
  refine Seq_wp2 fun KK hKK => (AssignN_wp (P := IsI (k : Int)) N F ((Ev.item (k := 1) (by walk_at "ev") (by walk_at "ev") L1 (by decide) (by decide) (by decide)).imp fun v s' h _ => h.2 rfl) t3 ?_)
  intro v s₂ s₃ zz3 x2 _ F3 c13
  obtain ⟨tk, rfl⟩ := zz3
  refine hKK _ ?_
  have c13' : Chg (Own env) s₁ s₃ := c13.mono fun _ => TgA.own
  have L3 := L1.chg c13' (L1.notOwn F)
  have C3 := C1.chg c13' (C1.notOwn F)
  refine Seq_wp2 fun KK hKK => (AsgSub_wp (R := IsI (k + 1 : Int)) (k := 1) (Ev.add (by walk_at "ev") (by walk_at "ev")) (by walk_at "ev") (by walk_at "ev") L3 (by decide) (by decide) (by decide) ?_)
  intro v s₄ s₅ s₆ zz4 _ _ L6 _ c36
  obtain ⟨tv, rfl⟩ := zz4
  refine hKK _ ?_
  have hne : lc ≠ lp := fun e => by
    subst e
    obtain ⟨vs, hl, hz, hP⟩ := L3
    obtain ⟨us, hl', hz', hP'⟩ := C3
    obtain ⟨o, ho, _, _, hd⟩ := hl
    obtain ⟨o', ho', _, _, hd'⟩ := hl'
    rw [ho] at ho'; cases ho'
    rw [hd] at hd'; cases hd'
    have h0 : vs[0]? = some vs[0] := by simp [hz]
    have e1 := (hP 0 _ h0).1 rfl
    obtain ⟨t', e2⟩ := hP' 0 _ h0
    rw [e1] at e2; cases e2
  have F6 : Fm env s₆.heap _ := F3.chg c36 fun b hb e => L3.notOwn F3 (e ▸ hb)
  have C6 := C3.chg c36 hne
  have L6' : LV s₆.heap lp 2 (PoolP lc (k + 1)) := L6.imp fun j v hj h => by
    simp only [show (1 : Int).toNat = 1 from rfl] at h
    by_cases e : j = 1
    · rw [if_pos e] at h; exact ⟨fun z => by omega, fun _ => ⟨tv, h⟩⟩
    · rw [if_neg e] at h; exact ⟨h.1, fun z => absurd z e⟩
  have c16 : Chg (fun b => Own env b ∨ b = lp) s₁ s₆ := (c13'.mono fun b z => .inl z).trans (c36.mono fun b z => .inr z)
  have up6 : Up hb s₆ := up1.chg c16 fun b z => z.elim (nwO b) fun e => e ▸ nw
  have fin : ∀ v s', (∃ t, v = .int (draw f m k many) t) → Ext s₆ s' → Q v s' := fun v s' e x =>
    q v s' e (L6'.ext x) ((Ext.any (Z := fun b => b = lp) X).transE (c16.trans (Ext.any (Z := fun b => Own env b ∨ b = lp) x)) fun b hb z => z.elim (fun z => absurd (own b z) hb) fun z => z)
  refine Seq_wp (If_wp (c := decide (k < m)) (Tst.ltN (by walk_at "ev") (Ev.lenC (by walk_at "bi") ((Ev.item (k := 0) (by walk_at "ev") (by walk_at "ev") L6' (by decide) (by decide) (by decide)).imp fun v s' h _ => h.1 rfl) C6 (by (with_reducible exact Mine.castUp (by assumption) (by decide))))) ?_ ?_)
  · intro hc s₇ x7
    have hc' : k < m := by simpa using hc
    have F7 := F6.ext x7
    have up7 := up6.ext x7
    refine Seq_wp (Ret_wp (P := IsI (draw f m k many)) (Ev.castI (Ev.fmod (a := (f k).natAbs) (b := many) (Ev.absC (by walk_at "bi") ?_) (by walk_at "ev") hmany) (by unfold draw; rw [if_pos hc'])) ?_)
    · exact (Ev.item (k := (k : Int)) ((Ev.item (k := 0) (by walk_at "ev") (by walk_at "ev") (L6'.ext x7) (by decide) (by decide) (by decide)).imp fun v s' h _ => h.1 rfl) (by walk_at "ev") (C6.ext x7) (by (with_reducible exact Int.natCast_nonneg _)) (by (with_reducible exact Int.ofNat_lt.2 (by assumption))) (by (with_reducible exact Mine.castUp (by assumption) (by decide)))).imp fun v s' h _ => h
    · rintro v s₈ e x8
      exact fin v s₈ e (x7.trans x8)
  · intro hc s₇ x7
    have hc' : ¬ k < m := by simpa using hc
    refine wpAny_execs_nil ?_
    have F7 := F6.ext x7
    refine Seq_wp (Ret_wp (P := IsI (draw f m k many)) (Ev.castI (Ev.fmod (a := drawT.getD (k % 7) 0) (b := many) ?_ (by walk_at "ev") hmany) (by unfold draw; rw [if_neg hc'])) ?_)
    · refine Ev.itemTN (k := k % 7) (P := fun vs _ => ConstV vs) ((Ev.tuple (P := fun vs _ => ConstV vs) ?_ (fun vs s' h => by have := h.1; omega) (fun _ _ _ h _ => h)).imp fun v s' ⟨l, vs, e, _, ht, h⟩ _ => ⟨l, vs, e, ht, h⟩) (Ev.castI (Ev.fmod (a := (k : Int)) (b := 7) (by walk_at "ev") (by walk_at "ev") (by decide)) ?_) (by omega) (fun vs s' h => by have := h.1; omega) (fun vs s' s'' v h _ e => h.2 _ _ e)
      · have one : ∀ {e : Expr} {es : List Expr} {x : Int} {pos : Pos} {n : Nat} (l : List Int) (h : Ev (Mw w) (A.deeper env) (eval e env) s₇ (IsI x)) (t : EvL (Mw w) (A.deeper env) es pos env s₇ (fun vs _ => vs.length = n ∧ ∀ (j : Nat) (v : Value), vs[j]? = some v → ∃ t, v = .int (l.getD j 0) t))
            (he : starEach (e :: es) env = (false, eval e env) :: starEach es env), EvL (Mw w) (A.deeper env) (e :: es) pos env s₇ (fun vs _ => vs.length = n + 1 ∧ ∀ (j : Nat) (v : Value), vs[j]? = some v → ∃ t, v = .int ((x :: l).getD j 0) t) := by
          intro e es x pos n l h t he
          refine EvL.imp (EvL.cons h t IsI.mono he) ?_
          intro vs s' zz2 _
          obtain ⟨v, r, rfl, ⟨t, rfl⟩, hn, hr⟩ := zz2
          refine ⟨by simp [hn], fun j v hj => ?_⟩
          cases j with
          | zero => simp at hj; exact ⟨t, by rw [← hj]; rfl⟩
          | succ j => simpa using hr j v (by simpa using hj)
        refine one [3, 5, 5, 2, 6, 2] (by walk_at "ev") (one [5, 5, 2, 6, 2] (by walk_at "ev") (one [5, 2, 6, 2] (by walk_at "ev") (one [2, 6, 2] (by walk_at "ev") (one [6, 2] (by walk_at "ev") (one [2] (by walk_at "ev") (one [] (by walk_at "ev") (EvL.imp EvL.nil ?_) rfl) rfl) rfl) rfl) rfl) rfl) rfl
        rintro vs s' rfl _
        exact ⟨rfl, fun j v h => by simp at h⟩
      · rw [Int.fmod_eq_emod_of_nonneg _ (by decide)]; omega
    · rintro v s₈ e x8
      exact fin v s₈ e (x7.trans x8)


end Mine
end
-- law_products
section
open PySem PySem.W PyProof.Rows PySem.Calls
set_option Elab.async false
set_option maxRecDepth 100000
set_option linter.unusedVariables false
set_option maxHeartbeats 1000000
namespace Mine
variable {w : World} {A : Around} {s : Shared} {hb : Heap}

noncomputable def prodTo (f : Nat → Int) : Nat → Int
  | 0 => 1
  | k + 1 => prodTo f k * f k
theorem law_products_ev {l : Addr} {n : Nat} {f : Nat → Int} (a : Am (KK w) hb) (up : Up hb s) (hd : A.depth < 900) (hh : A.handled = none) (hn : n ≤ 100)
    (L : LI s.heap l n f) (hf : ∀ k, k < n → (prodTo f k).natAbs < 2 ^ 63) :
    Ev (Mw w) A (call (.ref 149) [.ref l]) s (fun v s' => ∃ q, v = .ref q ∧ s.heap.get? q = none ∧ LI s'.heap q n (fun i => prodTo f (i + 1))) := by
  intro s₀ x0 Q q
  refine call_K1 (fa := 149) (binds := [(Str.ofString "numbers", .ref l)]) a (up.ext x0) (by show A.depth < 1000; (with_reducible exact Nat.lt_of_lt_of_le (by assumption) (by decide))) rfl rfl rfl rfl rfl rfl (by decide) rfl rfl ?_
  intro env s₁ hE N F X own
  have l1 : ldOk env "numbers" = true := ld_of hE rfl
  have l2 : ldOk env "found" = true := ld_of hE rfl
  have l3 : ldOk env "product" = true := ld_of hE rfl
  have l4 : ldOk env "number" = true := ld_of hE rfl
  have t2 : stOk env "found" = true := st_of hE rfl
  have t3 : stOk env "product" = true := st_of hE rfl
  have t4 : stOk env "number" = true := st_of hE rfl
  have hh' : (A.deeper env).handled = none := hh
  have L1 := (L.ext x0).ext X
  let FP : Nat → Nat → Value → Prop := fun k i v => ∃ t, v = .int (prodTo f (i + 1)) t
  refine Seq_wp2 fun KK hKK => (Assign2s_wp (P := fun vs s' => ∃ v1 v2, vs = [v1, v2] ∧ (∃ a, v1 = .ref a ∧ s₁.heap.get? a = none ∧ LVP s'.heap a 0 (fun i v => ∃ t, v = .int (prodTo f (i + 1)) t)) ∧ IsI 1 v2 s') hh' N F
    (EvL.imp (EvL.two (R := IsI 1) Ev.nilP (by walk_at "ev") (fun _ _ _ ⟨a, e, n, h⟩ x => ⟨a, e, n, h.ext x⟩) IsI.mono) fun vs s' ⟨a, b, e, h1, h2⟩ _ => ⟨a, b, e, h1, h2⟩)
    (by (intro vs s' zz2; obtain ⟨_, _, rfl, _⟩ := zz2); rfl) (fun vs s1 s2 ⟨a, b, e, ⟨c, e1, n, h⟩, h2⟩ x => ⟨a, b, e, ⟨c, e1, n, h.ext x⟩, h2⟩) t2 t3 (by rw [hE]; rfl) ?_)
  intro _ _ s₂ s₃ zz4 x2 c23 F3 c13
  obtain ⟨v1, v2, e, ⟨lf, rfl, hlf, L2⟩, ⟨tp, rfl⟩⟩ := zz4
  refine hKK _ ?_
  cases e
  clear hE
  have L3 := L2.chg c23 fun z => L2.lv.notOwn (F.ext x2) z
  have Ln3 := L1.chg c13 fun z => L1.notOwn F z
  have hne : l ≠ lf := fun e => L1.ne (e ▸ hlf)
  refine Seq_wp (For_wp (mods := fun b => Own env b ∨ b = lf) (n := n) hh' N F3 (tgN t4) (ItEv.list (l := l) (by walk_at "ev") Ln3)
    (fun b e z => z.elim (fun z => Ln3.notOwn F3 (e ▸ z)) fun e2 => hne (e ▸ e2)) (fun b z => z.elim (fun z => F3.exOwn z) fun e => e ▸ L3.lv.ne) (fun b z => .inl z)
    (fun k ρ s' => (ρ "found" = some (.ref lf) ∧ ∃ t, ρ "product" = some (.int (prodTo f k) t)) ∧ LVP s'.heap lf k (fun i v => ∃ t, v = .int (prodTo f (i + 1)) t))
    ?_ (fun s' x => ⟨⟨by walk_at "rho", tp, by walk_at "rho"⟩, L3.ext x⟩) ?_ ?_)
  · intro k ρ s₄ s₅ zz4 _ F4 y
    obtain ⟨h, m⟩ := zz4
    exact ⟨h, m.sys F4 y⟩
  · intro k ρ₁ ρ₂ s₄ hk zz5 zz6 F4 c34
    obtain ⟨⟨h1, tq, h2⟩, L4⟩ := zz5
    obtain ⟨_, ⟨t₁, rfl⟩, rfl⟩ := zz6
    refine Seq_wp2 fun KK hKK => (AssignN_wp (P := IsI (prodTo f (k + 1))) N F4 (Ev.mul (by walk_at "ev") (by walk_at "ev") (mulOk_l (hf k hk))) t3 ?_)
    intro v₅ s₅ s₆ zz3 _ _ F6 c46
    obtain ⟨tq', rfl⟩ := zz3
    refine hKK _ ?_
    have c46' : Chg (Own env) s₄ s₆ := c46.mono fun _ => TgA.own
    have L6 := L4.chg c46' fun z => L4.lv.notOwn F4 z
    refine Seq_wp2 fun KK hKK => (Append_wp N (by walk_at "ev") L6 (by omega) (R := IsI (prodTo f (k + 1))) (by walk_at "ev") ?_)
    intro v s₇ s₈ zz3 _ L8 _ c68
    obtain ⟨t', rfl⟩ := zz3
    refine hKK _ ?_
    refine wpAny_execs_nil ⟨(c46'.mono fun b z => .inl z).trans (c68.mono fun b e => .inr e), _, F6.chg c68 fun b hb e => L6.lv.notOwn F6 (e ▸ hb), ⟨by walk_at "rho", tq', by walk_at "rho"⟩, L8.imp fun i v hi h => ?_⟩
    by_cases e : i = k
    · subst e; rw [if_pos rfl] at h; exact ⟨t', h⟩
    · rw [if_neg e] at h; exact h
  · intro ρ₁ s₄ zz2 F4 c34
    obtain ⟨⟨h1, tq, h2⟩, L4⟩ := zz2
    refine Seq_wp (Ret_wp (P := IsV (.ref lf)) (by walk_at "ev") ?_)
    rintro v s₅ rfl x5
    exact q _ _ ⟨lf, rfl, x0.2 _ (X.2 _ hlf), L4.lv.ext x5⟩ (X.transE ((c13.mono fun b z => .inl z).trans (c34.trans (Ext.any (Z := fun b => Own env b ∨ b = lf) x5))) fun b hb z => z.elim (fun z => absurd (own b z) hb) fun e => absurd (e ▸ X.2 _ hlf) hb)


end Mine
end
-- law_lot
section
open PySem PySem.W PyProof.Rows PySem.Calls
set_option Elab.async false
set_option maxRecDepth 100000
set_option linter.unusedVariables false
set_option maxHeartbeats 1000000
namespace Mine
variable {w : World} {A : Around} {s : Shared} {hb : Heap}

noncomputable def lotF (g : Nat → Int) : List Int := (List.range 9).map (fun k => (Int.gcd (g (k / 3)) (g (k % 3)) : Int)) ++ [((Int.gcd (Int.gcd (g 0) (g 1)) (g 2) : Nat) : Int)]
noncomputable def lotL (g : Nat → Int) : List Int := ((List.range 12).filter fun (i : Nat) => (lotF g).any (· == (1 + (i : Int)))).map fun (i : Nat) => 1 + (i : Int)
theorem law_lot_ev {l : Addr} {g : Nat → Int} (a : Am (KK w) hb) (up : Up hb s) (hd : A.depth < 900) (hh : A.handled = none)
    (L : LI s.heap l 3 g) (hg : ∀ i, i < 3 → (g i).natAbs < 2 ^ 4) :
    Ev (Mw w) A (call (.ref 137) [.ref l]) s (fun v s' => ∃ q, v = .ref q ∧ s.heap.get? q = none ∧ LN s'.heap v (lotL g)) := by
  intro s₀ x0 Q q
  refine call_K1 (fa := 137) (binds := [(Str.ofString "numbers", .ref l)]) a (up.ext x0) (by show A.depth < 1000; (with_reducible exact Nat.lt_of_lt_of_le (by assumption) (by decide))) rfl rfl rfl rfl rfl rfl (by decide) rfl rfl ?_
  intro env s₁ hE N F X own
  have up1 := (up.ext x0).ext X
  have l1 : ldOk env "numbers" = true := ld_of hE rfl
  have l2 : ldOk env "found" = true := ld_of hE rfl
  have t2 : stOk env "found" = true := st_of hE rfl
  have c1 : HasC env "numbers" := hasC_of hE rfl
  have c2 : HasC env "found" := hasC_of hE rfl
  have gr : env.kindOf "range" = some .globalImplicit := kd_of hE rfl
  have gg : env.kindOf "_law_greatest" = some .globalImplicit := kd_of hE rfl
  have hh' : (A.deeper env).handled = none := hh
  have L1 := (L.ext x0).ext X
  have nwO : ∀ b, Own env b → hb.get? b = none := fun b z => by
    cases e : hb.get? b with
    | none => rfl
    | some o => have := own b z; rw [up.ext x0 b o e] at this; cases this
  refine Seq_wp (AssignN_wp N F (Ev.comp2 (n1 := 3) (n2 := 3) (P1 := fun i v => ∃ t, v = .int (g i) t) (P2 := fun i v => ∃ t, v = .int (g i) t) (B2 := fun b => b = l) (fun i j v => ∃ t, v = .int (Int.gcd (g i) (g j)) t) hh' N F (by walk_at "cok") (ItEv.list (l := l) (by walk_at "ev") L1)
    (fun C => tgN (by walk_at "st")) (fun C => tgN (by walk_at "st")) rfl rfl (by decide) (by decide) (by decide) ?_ ?_ ?_) t2 ?_ (hs := by rw [hE]; rfl))
  · rintro C i ρ₂ s₂ hi x2 _ hρ F2 N2
    have r1 : ρ₂ "numbers" = some (.ref l) := (hρ _ (by decide) (by decide)).trans (by walk_at "rho")
    exact ItEv.list (l := l) (by walk_at "ev") (L1.ext x2)
  · rintro b rfl; exact L1.ne
  · intro C i j ρ₂ s₂ v₁ v₂ hi hj x2 zz10 zz11 h1 h2 hρ F2 N2
    obtain ⟨t1, rfl⟩ := zz10
    obtain ⟨t2, rfl⟩ := zz11
    have up2 := up1.ext x2
    refine Ev.callG nm_law_greatest fn_law_greatest a up2 N2 (by walk_at "gl") (EvL.consV (by walk_at "ev") (EvL.consV (by walk_at "ev") .nil)) ?_
    rintro vs s' rfl x
    exact law_greatest_ev 4 a (up2.ext x) (by show A.depth + 1 + 2 * 4 + 2 < 1000; omega) hh' (hg j hj)
  clear hE
  intro v s₂ s₃ zz3 x2 c23 F3 c13
  obtain ⟨D, ys, rfl, hD, hP, hyl, hys⟩ := zz3
  have c13' : Chg (Own env) s₁ s₃ := c13.mono fun _ => TgA.own
  have c23' : Chg (Own env) s₂ s₃ := c23.mono fun _ => TgA.own
  have LF2 : LVP s₂.heap D 9 (fun k v => ∃ t, v = .int (Int.gcd (g (k / 3)) (g (k % 3))) t) := ⟨ys.toArray, hP, by simpa using hyl, fun k v h => hys k v (by simpa using h)⟩
  have LF3 := LF2.chg c23' fun z => LF2.lv.notOwn (F.ext x2) z
  have L3 := L1.chg c13' fun z => L1.notOwn F z
  have up3 : Up hb s₃ := up1.chg c13' nwO
  refine Seq_wp2 fun KK hKK => (Append_wp N (by walk_at "ev") LF3 (by decide) (R := IsI ((Int.gcd (Int.gcd (g 0) (g 1)) (g 2) : Nat) : Int)) ?_ ?_)
  · refine Ev.callG nm_law_greatest fn_law_greatest a up3 N gg (EvL.two (P := IsI ((Int.gcd (g 0) (g 1) : Nat) : Int)) (R := IsI (g 2)) (Ev.item (k := 1) (by walk_at "ev") (by walk_at "ev") LF3.lv (by decide) (by decide) (by decide)) (Ev.item (k := 2) (by walk_at "ev") (by walk_at "ev") L3 (by decide) (by decide) (by decide)) IsI.mono IsI.mono) ?_
    intro vs s' zz2 x
    obtain ⟨_, _, rfl, ⟨t1, rfl⟩, ⟨t2, rfl⟩⟩ := zz2
    exact law_greatest_ev 4 a (up3.ext x) (by show A.depth + 1 + 2 * 4 + 2 < 1000; omega) hh' (hg 2 (by decide))
  intro v s₄ s₅ zz3 x34 L5 c45 c35
  obtain ⟨t4, rfl⟩ := zz3
  refine hKK _ ?_
  have F5 : Fm env s₅.heap _ := F3.chg c35 fun b hb e => LF3.lv.notOwn F3 (e ▸ hb)
  have L5' : LI s₅.heap D 10 (fun k => (lotF g).getD k 0) := by
    refine L5.lv.imp fun k v hk h => ?_
    by_cases e : k = 9
    · subst e; rw [if_pos rfl] at h; exact ⟨t4, h⟩
    · rw [if_neg e] at h
      obtain ⟨t, h⟩ := h
      refine ⟨t, h.trans ?_⟩
      congr 1
      have hk9 : k < 9 := by omega
      unfold lotF
      simp [List.getD_eq_getElem?_getD, List.getElem?_append_left, hk9]
  have LNF : LN s₅.heap (.ref D) (lotF g) := LN.ofLI L5' (by
    have hl : (lotF g).length = 10 := by simp [lotF]
    apply List.ext_getElem?
    intro i
    by_cases h : i < 10
    · rw [List.getElem?_map, List.getElem?_range h, List.getElem?_eq_getElem (by omega)]; simp only [Option.map_some, List.getD_eq_getElem?_getD]; rw [List.getElem?_eq_getElem (by omega)]; rfl
    · rw [List.getElem?_eq_none (by omega), List.getElem?_eq_none (by simp; (with_reducible exact Nat.le_of_not_lt (by assumption)))])
  have c15 : Chg (fun b => Own env b ∨ b = D) s₁ s₅ := (c13'.mono fun b z => .inl z).trans (c35.mono fun b z => .inr z)
  have hDb : hb.get? D = none := by
    cases e : hb.get? D with
    | none => rfl
    | some o => rw [up1 D o e] at hD; cases hD
  have up5 : Up hb s₅ := up1.chg c15 fun b z => z.elim (nwO b) fun e => e ▸ hDb
  refine Seq_wp (Ret_wp (Ev.compF (n := 12) (fun (i : Nat) => (lotF g).any (· == (1 + (i : Int)))) (fun i v => ∃ t, v = .int (1 + (i : Int)) t) hh' N F5 (by walk_at "cok")
    (ItEv.rangeN (lo := 1) (hi := 13) (k := 12) (by walk_at "ev") (by decide) (by decide) (by decide) (by decide) (by decide)) .N (fun C => tgN (by walk_at "st")) rfl (by decide) ?_) ?_)
  · intro C i ρ₂ s₆ hi x6 zz6 F6 N6
    obtain ⟨_, ⟨tv, rfl⟩, rfl⟩ := zz6
    refine ⟨Tst.inL (by walk_at "ev") ((show Ev (Mw w) (A.deeper env) _ s₆ (IsV (.ref D)) by walk_at "ev").imp fun v s' e x => by cases e; exact (LNF.ext x6).ext x), fun _ => Ev.nameI F6 N6 (by walk_at "ld") (by walk_at "rho") rfl rfl⟩
  · intro v s₆ zz2 x6
    obtain ⟨D2, ys2, rfl, hD2, hl2, hp2⟩ := zz2
    refine q _ _ ⟨D2, rfl, ?_, D2, ys2, rfl, hl2, paired_ints (fun _ _ h => h) hp2⟩ (X.transE (c15.trans (Ext.any (Z := fun b => Own env b ∨ b = D) x6)) fun b hb z => z.elim (fun z => absurd (own b z) hb) fun e => absurd (e ▸ X.2 _ hD) hb)
    exact x0.2 _ (X.2 _ (c15.2 _ hD2))


end Mine
end
-- law_left
section
open PySem PySem.W PyProof.Rows PySem.Calls
set_option Elab.async false
set_option maxRecDepth 100000
set_option linter.unusedVariables false
set_option maxHeartbeats 1000000
namespace Mine
variable {w : World} {A : Around} {s : Shared} {hb : Heap}

noncomputable def leftL (lf tv : Nat → Int) : Nat → List Int
  | 0 => []
  | k + 1 => leftL lf tv k ++ [tv k - (((List.range k).filter fun j => (lf k).fmod (lf j) == 0).map fun j => (leftL lf tv k).getD j 0).sum]
theorem leftL_len {lf tv} : ∀ k, (leftL lf tv k).length = k
  | 0 => rfl
  | k + 1 => by simp [leftL, leftL_len k]
theorem law_left_ev {l td : Addr} {n m : Nat} {lf tv : Nat → Int} {f : Int → Option Value} (a : Am (KK w) hb) (up : Up hb s) (hd : A.depth < 800) (hh : A.handled = none) (hn : n ≤ 100)
    (L : LI s.heap l n lf) (D : DV s.heap td m f) (hl : ∀ i, i < n → lf i ≠ 0) (hf : ∀ i, i < n → ∃ t, f (lf i) = some (.int (tv i) t)) :
    Ev (Mw w) A (call (.ref 142) [.ref l, .ref td]) s (fun v s' => ∃ q, v = .ref q ∧ s.heap.get? q = none ∧ LN s'.heap v (leftL lf tv n)) := by
  intro s₀ x0 Q q
  refine call_K1 (fa := 142) (binds := [(Str.ofString "lot", .ref l), (Str.ofString "told", .ref td)]) a (up.ext x0) (by show A.depth < 1000; (with_reducible exact Nat.lt_of_lt_of_le (by assumption) (by decide))) rfl rfl rfl rfl rfl rfl (by decide) rfl rfl ?_
  intro env s₁ hE N F X own
  have up1 := (up.ext x0).ext X
  have l1 : ldOk env "lot" = true := ld_of hE rfl
  have l2 : ldOk env "told" = true := ld_of hE rfl
  have l3 : ldOk env "found" = true := ld_of hE rfl
  have l4 : ldOk env "at" = true := ld_of hE rfl
  have l5 : ldOk env "number" = true := ld_of hE rfl
  have t3 : stOk env "found" = true := st_of hE rfl
  have t4 : stOk env "at" = true := st_of hE rfl
  have t5 : stOk env "number" = true := st_of hE rfl
  have c1 : HasC env "lot" := hasC_of hE rfl
  have c2 : HasC env "found" := hasC_of hE rfl
  have c3 : HasC env "number" := hasC_of hE rfl
  have gr : env.kindOf "range" = some .globalImplicit := kd_of hE rfl
  have ge : env.kindOf "enumerate" = some .globalImplicit := kd_of hE rfl
  have gs : env.kindOf "sum" = some .globalImplicit := kd_of hE rfl
  have hh' : (A.deeper env).handled = none := hh
  have hd9 : (A.deeper env).depth < 900 := by show A.depth + 1 < 900; omega
  have L1 := (L.ext x0).ext X
  have D1 := (D.ext x0).ext X
  clear hE
  have nwO : ∀ b, Own env b → hb.get? b = none := fun b z => by
    cases e : hb.get? b with
    | none => rfl
    | some o => have := own b z; rw [up.ext x0 b o e] at this; cases this
  have tdO : ¬ Own env td := fun z => (D.ext x0).ne (own _ z)
  refine Seq_wp2 fun KK hKK => (AssignN_wp N F (Ev.nilP (P := fun _ _ => True)) t3 ?_)
  intro v s₂ s₃ zz3 x2 c23 F3 c13
  obtain ⟨lfd, rfl, hlf, L2⟩ := zz3
  refine hKK _ ?_
  have c13' : Chg (Own env) s₁ s₃ := c13.mono fun _ => TgA.own
  have c23' : Chg (Own env) s₂ s₃ := c23.mono fun _ => TgA.own
  have L3 := L2.chg c23' fun z => L2.lv.notOwn (F.ext x2) z
  have Ln3 := L1.chg c13' fun z => L1.notOwn F z
  have D3 := D1.chg c13' tdO
  have hne : l ≠ lfd := fun e => L1.ne (e ▸ hlf)
  have hne2 : td ≠ lfd := fun e => D1.ne (e ▸ hlf)
  have hDb : hb.get? lfd = none := by
    cases e : hb.get? lfd with
    | none => rfl
    | some o => rw [up1 lfd o e] at hlf; cases hlf
  let Z : Addr → Prop := fun b => Own env b ∨ b = lfd
  have up3 : Up hb s₃ := up1.chg c13' nwO
  have ups : ∀ {s'}, Chg Z s₃ s' → Up hb s' := fun c => up3.chg c fun b z => z.elim (nwO b) fun e => e ▸ hDb
  refine Seq_wp (For_wp (mods := Z) (n := n) hh' N F3 (tgE t4 t5) (ItEv.enum (P := fun i v => ∃ t, v = .int (lf i) t) (l := l) hh' (by walk_at "bi") (by walk_at "ev") Ln3)
    (fun b e z => z.elim (fun z => Ln3.notOwn F3 (e ▸ z)) fun e2 => hne (e ▸ e2)) (fun b z => z.elim (fun z => F3.exOwn z) fun e => e ▸ L3.lv.ne) (fun b z => .inl z)
    (fun k ρ s' => (ρ "found" = some (.ref lfd) ∧ ρ "lot" = some (.ref l) ∧ ρ "told" = some (.ref td)) ∧ LVP s'.heap lfd k (fun i v => ∃ t, v = .int ((leftL lf tv k).getD i 0) t))
    ?_ (fun s' x => ⟨⟨by walk_at "rho", by walk_at "rho", by walk_at "rho"⟩, (L3.ext x).imp fun i v h => absurd h (Nat.not_lt_zero _)⟩) ?_ ?_)
  · intro k ρ s₄ s₅ zz4 _ F4 y
    obtain ⟨h, m⟩ := zz4
    exact ⟨h, m.sys F4 y⟩
  · intro k ρ₁ ρ₂ s₄ hk zz5 zz6 F4 c34
    obtain ⟨⟨h1, h2, h3⟩, L4⟩ := zz5
    obtain ⟨_, ta, ⟨tn, rfl⟩, rfl⟩ := zz6
    have up4 := ups c34
    have Ln4 := Ln3.chg c34 fun z => z.elim (fun z => Ln3.notOwn F3 z) fun e => hne e
    have D4 := D3.chg c34 fun z => z.elim tdO fun e => hne2 e
    obtain ⟨tf, htf⟩ := hf k hk
    refine Seq_wp2 fun KK hKK => (Append_wp N (by walk_at "ev") L4 (by omega) (R := IsI (tv k - (((List.range k).filter fun j => (lf k).fmod (lf j) == 0).map fun j => (leftL lf tv k).getD j 0).sum)) (Ev.sub ((Ev.itemD (by walk_at "ev") (by walk_at "ev") D4 htf).imp fun v s' e _ => ⟨tf, e⟩) (Ev.sumC hh' (by walk_at "bi") ?_)) ?_)
    · refine (Ev.compF (n := k) (fun j => (lf k).fmod (lf j) == 0) (fun j v => ∃ t, v = .int ((leftL lf tv k).getD j 0) t) hh' N F4 (by walk_at "cok")
        (ItEv.rangeN (lo := 0) (hi := k) (k := k) (by walk_at "ev") (by omega) (by decide) (by decide) (by omega) (by (with_reducible exact Mine.castLo (by decide)))) .N (fun C => tgN (by walk_at "st")) rfl (by omega) ?_).imp ?_
      · intro C j ρ₃ s₅ hj x5 zz6 F5 N5
        obtain ⟨_, ⟨tj, rfl⟩, rfl⟩ := zz6
        have e0 : ((0 : Int) + (j : Int)) = ((j : Nat) : Int) := by omega
        rw [e0] at F5
        have up5 := up4.ext x5
        refine ⟨Tst.value (Ev.callG nm_law_divides fn_law_divides a up5 N5 (by walk_at "gl") (EvL.two (P := IsI (lf j)) (R := IsI (lf k)) (Ev.item (k := ((j : Nat) : Int)) (by walk_at "ev") (by walk_at "ev") (Ln4.ext x5) (by (with_reducible exact Int.natCast_nonneg _)) (by omega) (by (with_reducible exact Mine.castUp (by assumption) (by decide)))) (by walk_at "ev") IsI.mono IsI.mono) ?_), fun _ => ?_⟩
        · intro vs s' zz2 x
          obtain ⟨_, _, rfl, ⟨t1, rfl⟩, ⟨t2, rfl⟩⟩ := zz2
          exact law_divides_ev a (up5.ext x) hd9 hh' (hl j (by (with_reducible exact Nat.lt_trans (by assumption) (by assumption))))
        · exact Ev.item (k := ((j : Nat) : Int)) (by walk_at "ev") (by walk_at "ev") (L4.lv.ext x5) (by (with_reducible exact Int.natCast_nonneg _)) (by (with_reducible exact Int.ofNat_lt.2 (by assumption))) (by omega)
      · intro v s' zz2 _
        obtain ⟨D, ys, rfl, _, hl, hp⟩ := zz2
        exact ⟨D, ys, rfl, hl, paired_ints (fun _ _ h => h) hp⟩
    intro v s₇ s₈ zz3 _ L8 _ c48
    obtain ⟨t', rfl⟩ := zz3
    refine hKK _ ?_
    refine wpAny_execs_nil ⟨c48.mono fun b e => .inr e, _, F4.chg c48 fun b hb e => L4.lv.notOwn F4 (e ▸ hb), ⟨by walk_at "rho", by walk_at "rho", by walk_at "rho"⟩, L8.imp fun i v hi h => ?_⟩
    have hlen := leftL_len (lf := lf) (tv := tv) k
    by_cases e : i = k
    · subst e
      rw [if_pos rfl] at h
      refine ⟨t', h.trans ?_⟩
      congr 1
      show _ = (leftL lf tv i ++ [_]).getD i 0
      rw [List.getD_eq_getElem?_getD, List.getElem?_append_right (by (with_reducible exact Nat.le_of_eq (by assumption))), hlen]
      simp
    · rw [if_neg e] at h
      obtain ⟨t, h⟩ := h
      refine ⟨t, h.trans ?_⟩
      congr 1
      show _ = (leftL lf tv k ++ [_]).getD i 0
      rw [List.getD_eq_getElem?_getD, List.getD_eq_getElem?_getD, List.getElem?_append_left (by omega)]
  · intro ρ₁ s₄ zz2 F4 c34
    obtain ⟨⟨h1, h2, h3⟩, L4⟩ := zz2
    refine Seq_wp (Ret_wp (P := IsV (.ref lfd)) (by walk_at "ev") ?_)
    rintro v s₅ rfl x5
    refine q _ _ ⟨lfd, rfl, x0.2 _ (X.2 _ hlf), LN.ofLI (L4.lv.ext x5) ?_⟩ (X.transE ((c13'.mono fun b z => .inl z).trans (c34.trans (Ext.any (Z := Z) x5))) fun b hb z => z.elim (fun z => absurd (own b z) hb) fun e => absurd (e ▸ X.2 _ hlf) hb)
    have hlen := leftL_len (lf := lf) (tv := tv) n
    apply List.ext_getElem?
    intro i
    by_cases h : i < n
    · rw [List.getElem?_map, List.getElem?_range h, List.getElem?_eq_getElem (by omega)]; simp only [Option.map_some, List.getD_eq_getElem?_getD]; rw [List.getElem?_eq_getElem (by omega)]; rfl
    · rw [List.getElem?_eq_none (by omega), List.getElem?_eq_none (by simp; (with_reducible exact Nat.le_of_not_lt (by assumption)))]


end Mine
end
-- PlainDef
section
namespace Mine
noncomputable def tabF (ix : Nat → Nat → Nat) (tv : Nat → Int) : Nat → Nat → Int := fun x y => tv (ix x y)
noncomputable def leftF (lf tv : Nat → Int) (n : Nat) : Nat → Int := fun i => (leftL lf tv n).getD i 0
noncomputable def comm (left : Nat → Int) : Nat → Nat → Int
  | 0, a => if a = 0 then 1 else 0
  | j + 1, a => if a = 0 then 1 else Int.gcd (comm left j a) (comm left j (a - 1) * left j)
structure Plain (n : Nat) (lf : Nat → Int) (ix : Nat → Nat → Nat) (tv : Nat → Int) : Prop where
  minors : ∀ k, k < n → DetRun (k + 1) (prodTo (leftF lf tv n) (k + 1)) 0 (tabF ix tv) 1
  pb : ∀ k, k ≤ n → (prodTo (leftF lf tv n) k).natAbs < 2 ^ 63
  cb : ∀ j a, j ≤ n → a ≤ n → (comm (leftF lf tv n) j a).natAbs < 2 ^ 63
  cb2 : ∀ j a, j < n → a ≤ n → (comm (leftF lf tv n) j a * leftF lf tv n j).natAbs < 2 ^ 63
  run : ∃ K R, Run n R K (tabF ix tv) 0 ∧ ∀ k, k < n → prodTo (fun i => R i i) (k + 1) = comm (leftF lf tv n) n (k + 1)
structure Lot (g : Nat → Int) (n : Nat) (lf : Nat → Int) (ix : Nat → Nat → Nat) : Prop where
  pos : 1 ≤ n
  le : n ≤ 6
  lot : lotL g = (List.range n).map lf
  rng : ∀ i, i < n → 1 ≤ lf i ∧ lf i ≤ 12
  inj : ∀ i j, i < n → j < n → lf i = lf j → i = j
  ixl : ∀ x y, x < n → y < n → ix x y < n
  ixg : ∀ x y, x < n → y < n → lf (ix x y) = Int.gcd (lf x) (lf y)
/-- what the law counts: the numbers up to i + 1 that are prime to it -/
noncomputable def apartF (i : Nat) : Int := (((List.range (i + 1)).filter fun j => (Int.gcd ((1 + j : Nat) : Int) ((1 + i : Nat) : Int) : Int) == 1).length : Nat)
noncomputable def gcdF : Nat → Nat → Int := fun x y => (Int.gcd ((1 + x : Nat) : Int) ((1 + y : Nat) : Int) : Nat)
end Mine
end
-- Bar
section
set_option Elab.async false
namespace Mine
noncomputable def sumFrom (f : Nat → Int) : Nat → Nat → Int
  | _, 0 => 0
  | p, c + 1 => f p + sumFrom f (p + 1) c
theorem sumFrom_zero {f : Nat → Int} : ∀ c p, (∀ m, p ≤ m → m < p + c → f m = 0) → sumFrom f p c = 0
  | 0, _, _ => rfl
  | c + 1, p, h => by
    rw [sumFrom, h p (Nat.le_refl _) (by omega), sumFrom_zero c (p + 1) fun m h1 h2 => h m (by (with_reducible exact Nat.le_trans (Nat.le_add_right _ _) (by assumption))) (by omega)]; rfl
theorem prodTo_zero {d : Nat → Int} {p : Nat} (h : d p = 0) : ∀ c, prodTo d (p + 1 + c) = 0
  | 0 => by show prodTo d p * d p = 0; rw [h]; simp
  | c + 1 => by show prodTo d (p + 1 + c) * _ = 0; rw [prodTo_zero h c]; simp
theorem pivR_none {S : Nat → Nat → Int} {p : Nat} : ∀ m, (∀ x, p ≤ x → x < p + m → S x p = 0) → pivR S p m = none
  | 0, _ => rfl
  | m + 1, h => by
    show (pivR S p m).or _ = none
    rw [pivR_none m fun x h1 h2 => h x h1 (by omega), if_neg (by rw [h (p + m) (by (with_reducible exact Nat.le_add_right _ _)) (by (with_reducible exact Nat.add_lt_add_left (Nat.lt_succ_self _) _))]; simp)]; rfl
section
variable {A : Nat → Nat → Int} {d : Nat → Int} {N n' : Nat}
noncomputable def Sg (A : Nat → Nat → Int) (d : Nat → Int) (N p x y : Nat) : Int := sumFrom (fun m => A x m * d m * A y m) p (N - p)
theorem Sg_step {p x y : Nat} (h : p < N) : Sg A d N p x y = A x p * d p * A y p + Sg A d N (p + 1) x y := by
  unfold Sg
  rw [show N - p = (N - (p + 1)) + 1 from by omega, sumFrom]
theorem Sg_row {p y : Nat} (h : p < N) (A1 : ∀ x, x < N → A x x = 1) (A0 : ∀ x m, x < N → x < m → A x m = 0) : Sg A d N p p y = d p * A y p := by
  rw [Sg_step h, A1 p h]
  have : Sg A d N (p + 1) p y = 0 := sumFrom_zero _ _ fun m h1 h2 => by show A p m * _ * _ = 0; rw [A0 p m h (by (with_reducible exact Nat.lt_of_succ_le (by assumption)))]; simp
  rw [this]; simp
theorem Sg_col {p x : Nat} (h : p < N) (A1 : ∀ x, x < N → A x x = 1) (A0 : ∀ x m, x < N → x < m → A x m = 0) : Sg A d N p x p = A x p * d p := by
  rw [Sg_step h, A1 p h]
  have : Sg A d N (p + 1) x p = 0 := sumFrom_zero _ _ fun m h1 h2 => by show _ * A p m = 0; rw [A0 p m h (by (with_reducible exact Nat.lt_of_succ_le (by assumption)))]; simp
  rw [this]; simp
theorem detRun_of (hn : n' ≤ N) (A1 : ∀ x, x < N → A x x = 1) (A0 : ∀ x m, x < N → x < m → A x m = 0)
    (hB : ∀ p x y, p ≤ n' → x < n' → y < n' → (prodTo d p * Sg A d N p x y).natAbs < 2 ^ 63) (hP : ∀ p, p ≤ n' → (prodTo d p).natAbs < 2 ^ 63) :
    ∀ (c p : Nat) (T : Nat → Nat → Int), p + c = n' → (∀ x y, p ≤ x → x < n' → p ≤ y → y < n' → T x y = prodTo d p * Sg A d N p x y) → (∀ x y, x < n' → y < n' → (T x y).natAbs < 2 ^ 63) → prodTo d p ≠ 0 →
      DetRun n' (prodTo d n') p T (prodTo d p)
  | 0, p, T, hc, hT, hb, h0 => .fin (by omega) (by rw [← hc]; rfl)
  | c + 1, p, T, hc, hT, hb, h0 => by
    have hpn : p < n' := by omega
    have hpN : p < N := by (with_reducible exact Nat.lt_of_lt_of_le (by assumption) (by assumption))
    have hpp : T p p = prodTo d p * d p := by rw [hT p p (by (with_reducible exact Nat.le_refl _)) hpn (by (with_reducible exact Nat.le_refl _)) hpn, Sg_row hpN A1 A0, A1 p hpN]; simp
    by_cases hd : d p = 0
    · refine .zero hpn (pivR_none _ fun x h1 h2 => ?_) ?_
      · rw [hT x p h1 (by omega) (by (with_reducible exact Nat.le_refl _)) hpn, Sg_col hpN A1 A0, hd]; simp
      · have := prodTo_zero hd (n' - (p + 1)); rwa [Nat.add_sub_of_le (show p + 1 ≤ n' from hpn)] at this
    · have hne : T p p ≠ 0 := by rw [hpp]; exact Int.mul_ne_zero h0 hd
      refine .step hpn hne h0 (hP p (by (with_reducible exact Nat.le_of_lt (by assumption)))) hb ?_
      have new : ∀ x y, p < x → x < n' → p < y → y < n' → BSK T p (prodTo d p) (n' - (p + 1)) x y = prodTo d (p + 1) * Sg A d N (p + 1) x y := by
        intro x y h1 h2 h3 h4
        unfold BSK bsE
        rw [if_pos (by omega), if_neg (by (with_reducible exact Nat.ne_of_gt (by assumption))), if_pos h3, hpp, hT x y (by (with_reducible exact Nat.le_of_lt (by assumption))) h2 (by (with_reducible exact Nat.le_of_lt (by assumption))) h4, hT x p (by (with_reducible exact Nat.le_of_lt (by assumption))) h2 (by (with_reducible exact Nat.le_refl _)) hpn, hT p y (by (with_reducible exact Nat.le_refl _)) hpn (by (with_reducible exact Nat.le_of_lt (by assumption))) h4,
          Sg_row hpN A1 A0, Sg_col hpN A1 A0, Sg_step hpN]
        generalize Sg A d N (p + 1) x y = s
        show Int.fdiv _ _ = prodTo d p * d p * s
        generalize prodTo d p = P at *
        have e : P * (A x p * d p * A y p + s) * (P * d p) - P * (A x p * d p) * (P * (d p * A y p)) = (P * d p * s) * P := by grind
        rw [e, Int.mul_fdiv_cancel _ h0]
      have hpp' : T p p = prodTo d (p + 1) := hpp
      rw [hpp']
      refine detRun_of hn A1 A0 hB hP c (p + 1) _ (by omega) (fun x y h1 h2 h3 h4 => new x y (by (with_reducible exact Nat.lt_of_succ_le (by assumption))) h2 (by (with_reducible exact Nat.lt_of_succ_le (by assumption))) h4) ?_ (hpp' ▸ hne)
      intro x y hx hy
      by_cases h1 : p < x
      · by_cases h2 : p < y
        · rw [new x y h1 hx h2 hy]; exact hB (p + 1) x y hpn hx hy
        · unfold BSK
          rw [if_pos (by omega)]
          by_cases h3 : y = p
          · rw [if_pos h3]; decide
          · rw [if_neg h3, if_neg h2]; exact hb x y hx hy
      · unfold BSK; rw [if_neg (by omega)]; exact hb x y hx hy
end
end Mine
end
-- Apart
section
set_option Elab.async false
namespace Mine
noncomputable def A5 (x m : Nat) : Int := if (x + 1) % (m + 1) = 0 then 1 else 0
theorem apart_eq : ∀ x, x < 5 → ∀ y, y < 5 → gcdF x y = prodTo apartF 0 * Sg A5 apartF 5 0 x y := by decide +kernel
theorem apart_A1 : ∀ x, x < 5 → A5 x x = 1 := by decide +kernel
theorem apart_B : ∀ p, p < 6 → ∀ x, x < 5 → ∀ y, y < 5 → (prodTo apartF p * Sg A5 apartF 5 p x y).natAbs < 2 ^ 63 := by decide +kernel
theorem apart_P : ∀ p, p < 6 → (prodTo apartF p).natAbs < 2 ^ 63 := by decide +kernel
theorem apart_G : ∀ x, x < 5 → ∀ y, y < 5 → (gcdF x y).natAbs < 2 ^ 63 := by decide +kernel
theorem apart_A0 {x m : Nat} (h : x < m) : A5 x m = 0 := by
  unfold A5; rw [if_neg]; rw [Nat.mod_eq_of_lt (by (with_reducible exact Nat.succ_lt_succ (by assumption)))]; (with_reducible exact Nat.succ_ne_zero _)
theorem plain_apart (n : Nat) (hn : n ≤ 5) : (∀ k, k < n → DetRun (k + 1) (prodTo apartF (k + 1)) 0 gcdF 1) ∧ ∀ k, k ≤ n → (prodTo apartF k).natAbs < 2 ^ 63 :=
  ⟨fun k hk => detRun_of (A := A5) (d := apartF) (N := 5) (n' := k + 1) (by (with_reducible exact Nat.succ_le_of_lt (Nat.lt_of_lt_of_le (by assumption) (by assumption)))) apart_A1 (fun x m _ h => apart_A0 h) (fun p x y hp hx hy => apart_B p (by omega) x (by omega) y (by omega)) (fun p hp => apart_P p (by omega)) (k + 1) 0 gcdF (by (with_reducible exact Nat.add_comm _ _))
      (fun x y _ hx _ hy => apart_eq x (by omega) y (by omega)) (fun x y hx hy => apart_G x (by omega) y (by omega)) (by decide),
    fun k hk => apart_P k (by omega)⟩
end Mine
end
-- Sm1
section
set_option Elab.async false
set_option linter.unusedVariables false
namespace Mine
noncomputable def sumTo (f : Nat → Int) : Nat → Int
  | 0 => 0
  | k + 1 => sumTo f k + f k
theorem sumTo_congr {f g : Nat → Int} : ∀ {k}, (∀ t, t < k → f t = g t) → sumTo f k = sumTo g k
  | 0, _ => rfl
  | k + 1, h => by show sumTo f k + f k = sumTo g k + g k; rw [sumTo_congr fun t ht => h t (by (with_reducible exact Nat.lt_succ_of_lt (by assumption))), h k (by (with_reducible exact Nat.lt_succ_self _))]
theorem sumTo_add {f g : Nat → Int} : ∀ {k}, sumTo (fun t => f t + g t) k = sumTo f k + sumTo g k
  | 0 => rfl
  | k + 1 => by show sumTo _ k + _ = (sumTo f k + f k) + (sumTo g k + g k); rw [sumTo_add]; show _ + (f k + g k) = _; omega
theorem sumTo_mul {f : Nat → Int} {c : Int} : ∀ {k}, sumTo (fun t => c * f t) k = c * sumTo f k
  | 0 => by simp [sumTo]
  | k + 1 => by show sumTo _ k + _ = c * (sumTo f k + f k); rw [sumTo_mul, Int.mul_add]
/-- M is, modulo q, a product with k between -/
noncomputable def FF (n : Nat) (M : Nat → Nat → Int) (q : Int) (k : Nat) : Prop := ∃ X Y : Nat → Nat → Int, ∀ x y, x < n → y < n → q ∣ M x y - sumTo (fun t => X x t * Y t y) k
section
variable {n k : Nat} {M M' : Nat → Nat → Int} {q : Int}
theorem FF.row2 {σ τ : Nat → Nat} {a c : Nat → Int} (h : FF n M q k) (hσ : ∀ x, x < n → σ x < n) (hτ : ∀ x, x < n → τ x < n)
    (e : ∀ x y, x < n → y < n → M' x y = a x * M (σ x) y + c x * M (τ x) y) : FF n M' q k := by
  obtain ⟨X, Y, h⟩ := h
  refine ⟨fun x t => a x * X (σ x) t + c x * X (τ x) t, Y, fun x y hx hy => ?_⟩
  have h1 := h (σ x) y (hσ x hx) hy
  have h2 := h (τ x) y (hτ x hx) hy
  have e1 : sumTo (fun t => (a x * X (σ x) t + c x * X (τ x) t) * Y t y) k = a x * sumTo (fun t => X (σ x) t * Y t y) k + c x * sumTo (fun t => X (τ x) t * Y t y) k := by
    rw [← sumTo_mul, ← sumTo_mul, ← sumTo_add]
    exact sumTo_congr fun t _ => by grind
  rw [e1, e x y hx hy]
  have e2 : a x * M (σ x) y + c x * M (τ x) y - (a x * sumTo (fun t => X (σ x) t * Y t y) k + c x * sumTo (fun t => X (τ x) t * Y t y) k)
      = a x * (M (σ x) y - sumTo (fun t => X (σ x) t * Y t y) k) + c x * (M (τ x) y - sumTo (fun t => X (τ x) t * Y t y) k) := by grind
  rw [e2]
  exact Int.dvd_add (Int.dvd_mul_of_dvd_right h1) (Int.dvd_mul_of_dvd_right h2)
theorem FF.col2 {σ τ : Nat → Nat} {a c : Nat → Int} (h : FF n M q k) (hσ : ∀ x, x < n → σ x < n) (hτ : ∀ x, x < n → τ x < n)
    (e : ∀ x y, x < n → y < n → M' x y = a y * M x (σ y) + c y * M x (τ y)) : FF n M' q k := by
  obtain ⟨X, Y, h⟩ := h
  refine ⟨X, fun t y => a y * Y t (σ y) + c y * Y t (τ y), fun x y hx hy => ?_⟩
  have h1 := h x (σ y) hx (hσ y hy)
  have h2 := h x (τ y) hx (hτ y hy)
  have e1 : sumTo (fun t => X x t * (a y * Y t (σ y) + c y * Y t (τ y))) k = a y * sumTo (fun t => X x t * Y t (σ y)) k + c y * sumTo (fun t => X x t * Y t (τ y)) k := by
    rw [← sumTo_mul, ← sumTo_mul, ← sumTo_add]
    exact sumTo_congr fun t _ => by grind
  rw [e1, e x y hx hy]
  have e2 : a y * M x (σ y) + c y * M x (τ y) - (a y * sumTo (fun t => X x t * Y t (σ y)) k + c y * sumTo (fun t => X x t * Y t (τ y)) k)
      = a y * (M x (σ y) - sumTo (fun t => X x t * Y t (σ y)) k) + c y * (M x (τ y) - sumTo (fun t => X x t * Y t (τ y)) k) := by grind
  rw [e2]
  exact Int.dvd_add (Int.dvd_mul_of_dvd_right h1) (Int.dvd_mul_of_dvd_right h2)
/-- the same classes -/
noncomputable def Eqv (n : Nat) (M M' : Nat → Nat → Int) : Prop := ∀ q k, FF n M q k ↔ FF n M' q k
theorem Eqv.trans {M''} (h : Eqv n M M') (h' : Eqv n M' M'') : Eqv n M M'' := fun q k => (h q k).trans (h' q k)
theorem Eqv.symm (h : Eqv n M M') : Eqv n M' M := fun q k => (h q k).symm
theorem Eqv.congr (e : ∀ x y, x < n → y < n → M x y = M' x y) : Eqv n M M' := fun q k =>
  ⟨fun ⟨X, Y, h⟩ => ⟨X, Y, fun x y hx hy => e x y hx hy ▸ h x y hx hy⟩, fun ⟨X, Y, h⟩ => ⟨X, Y, fun x y hx hy => (e x y hx hy).symm ▸ h x y hx hy⟩⟩
end
end Mine
end
-- Sm2
section
set_option Elab.async false
set_option linter.unusedVariables false
namespace Mine
section
variable {n k p : Nat} {M M' : Nat → Nat → Int} {q : Int}
theorem Eqv.addRow {c : Nat → Int} (hp : p < n) (h0 : c p = 0) (e : ∀ x y, x < n → y < n → M' x y = M x y + c x * M p y) : Eqv n M M' := fun q k =>
  ⟨fun h => h.row2 (σ := id) (τ := fun _ => p) (a := fun _ => 1) (c := c) (fun x hx => hx) (fun x _ => hp) fun x y hx hy => by rw [e x y hx hy]; simp,
   fun h => h.row2 (σ := id) (τ := fun _ => p) (a := fun _ => 1) (c := fun x => - c x) (fun x hx => hx) (fun x _ => hp) fun x y hx hy => by
    show M x y = 1 * M' x y + - c x * M' p y
    rw [e x y hx hy, e p y hp hy, h0]; grind⟩
theorem Eqv.addCol {c : Nat → Int} (hp : p < n) (h0 : c p = 0) (e : ∀ x y, x < n → y < n → M' x y = M x y + c y * M x p) : Eqv n M M' := fun q k =>
  ⟨fun h => h.col2 (σ := id) (τ := fun _ => p) (a := fun _ => 1) (c := c) (fun x hx => hx) (fun x _ => hp) fun x y hx hy => by rw [e x y hx hy]; simp,
   fun h => h.col2 (σ := id) (τ := fun _ => p) (a := fun _ => 1) (c := fun x => - c x) (fun x hx => hx) (fun x _ => hp) fun x y hx hy => by
    show M x y = 1 * M' x y + - c y * M' x p
    rw [e x y hx hy, e x p hx hp, h0]; grind⟩
theorem swp_lt' {i j x : Nat} (hi : i < n) (hj : j < n) (hx : x < n) : swp i j x < n := by
  unfold swp
  split
  · exact hj
  · split
    · exact hi
    · exact hx
theorem swp_swp {i j x : Nat} : swp i j (swp i j x) = x := by
  unfold swp
  by_cases h1 : x = i
  · subst h1
    by_cases h2 : j = x
    · simp [h2]
    · simp [h2]
  · by_cases h2 : x = j
    · subst h2; simp [h1]
    · simp [h1, h2]
theorem Eqv.brg {i j : Nat} (hi : i < n) (hj : j < n) (hp : p < n) : Eqv n M (brg M i j p) := fun q k =>
  ⟨fun h => (h.row2 (M' := fun x y => M (swp i p x) y) (σ := swp i p) (τ := id) (a := fun _ => 1) (c := fun _ => 0) (fun x hx => swp_lt' hi hp hx) (fun x hx => hx) fun x y hx hy => by simp).col2
      (σ := swp j p) (τ := id) (a := fun _ => 1) (c := fun _ => 0) (fun x hx => swp_lt' hj hp hx) (fun x hx => hx) fun x y hx hy => by show M (swp i p x) (swp j p y) = _; simp,
   fun h => (h.row2 (M' := fun x y => M x (swp j p y)) (σ := swp i p) (τ := id) (a := fun _ => 1) (c := fun _ => 0) (fun x hx => swp_lt' hi hp hx) (fun x hx => hx) fun x y hx hy => by
        show M x (swp j p y) = 1 * M (swp i p (swp i p x)) (swp j p y) + _; rw [swp_swp]; simp).col2
      (σ := swp j p) (τ := id) (a := fun _ => 1) (c := fun _ => 0) (fun x hx => swp_lt' hj hp hx) (fun x hx => hx) fun x y hx hy => by show M x y = 1 * M x (swp j p (swp j p y)) + _; rw [swp_swp]; simp⟩
theorem clr_row {x y : Nat} (hp : p < n) (hx : x < n) (h : p < x) (hy : y ≤ p) : clr n M p x y = M x y - rowQ M p x * M p y := by
  unfold clr CP RP; rw [if_neg (by omega), if_pos (by omega)]
theorem Eqv.clr (hp : p < n) : Eqv n M (clr n M p) := by
  refine Eqv.trans (M' := RP M M p (n - (p + 1))) (Eqv.addRow (p := p) (c := fun x => if p < x then - rowQ M p x else 0) hp (by simp) fun x y hx hy => ?_) (Eqv.addCol (p := p) (c := fun y => if p < y then - colQ M p y else 0) hp (by simp) fun x y hx hy => ?_)
  · unfold RP
    by_cases h : p < x
    · rw [if_pos (by omega)]; simp only [h, if_true]; grind
    · rw [if_neg (by omega)]; simp [h]
  · show CP M (RP M M p (n - (p + 1))) p (n - (p + 1)) x y = _
    unfold CP
    by_cases h : p < y
    · rw [if_pos (by omega)]; simp only [h, if_true]; grind
    · rw [if_neg (by omega)]; simp [h]
theorem Eqv.addR {x : Nat} (hx : x < n) (hp : p < n) (h : x ≠ p) : Eqv n M (addR M x p) :=
  Eqv.addRow (p := x) (c := fun z => if z = p then 1 else 0) hx (by simp [h]) fun z y hz hy => by
    unfold Mine.addR setF
    by_cases e : z = p
    · subst e; simp
    · simp [e]
theorem Eqv.negR (hp : p < n) : Eqv n M (negR M p) := fun q k =>
  ⟨fun h => h.row2 (σ := id) (τ := id) (a := fun x => if x = p then -1 else 1) (c := fun _ => 0) (fun x hx => hx) (fun x hx => hx) fun x y hx hy => by
      unfold Mine.negR setF
      by_cases e : x = p
      · subst e; simp
      · simp [e],
   fun h => h.row2 (σ := id) (τ := id) (a := fun x => if x = p then -1 else 1) (c := fun _ => 0) (fun x hx => hx) (fun x hx => hx) fun x y hx hy => by
      unfold Mine.negR setF
      by_cases e : x = p
      · subst e; simp
      · simp [e]⟩
theorem firstU_ne {S p m k x} (h : firstU S p m k = some x) : x ≠ p := by have := firstU_lt h; omega
theorem Run.eqv {R : Nat → Nat → Int} {K : Nat} {S : Nat → Nat → Int} (r : Run n R K S p) : Eqv n S R := by
  induction r with
  | fin h e => subst e; exact fun _ _ => Iff.rfl
  | zero h e1 e => subst e; exact fun _ _ => Iff.rfl
  | pass h e1 b d r ih =>
    have hin : InB n (some _) := e1 ▸ scanAll_in (by omega) (by omega)
    exact ((Eqv.brg hin.1 hin.2 h).trans (Eqv.clr h)).trans ih
  | add h e1 b d f r ih =>
    have hin : InB n (some _) := e1 ▸ scanAll_in (by omega) (by omega)
    have hx := firstU_lt f
    exact (((Eqv.brg hin.1 hin.2 h).trans (Eqv.clr h)).trans (Eqv.addR (by omega) h (by omega))).trans ih
  | next h e1 b d f r ih =>
    have hin : InB n (some _) := e1 ▸ scanAll_in (by omega) (by omega)
    refine ((Eqv.brg hin.1 hin.2 h).trans (Eqv.clr h)).trans (Eqv.trans ?_ ih)
    split
    · exact Eqv.negR h
    · exact fun _ _ => Iff.rfl
end
end Mine
end
-- Sm3
section
set_option Elab.async false
set_option linter.unusedVariables false
namespace Mine
structure Pre (n : Nat) (S : Nat → Nat → Int) (p : Nat) : Prop where
  z : ∀ x y, x < n → y < n → x ≠ y → (x < p ∨ y < p) → S x y = 0
  nn : ∀ i, i < p → 0 ≤ S i i
  dv : ∀ i x y, i < p → i ≤ x → i ≤ y → x < n → y < n → S i i ∣ S x y
section
variable {n k p : Nat} {M M' S : Nat → Nat → Int}
theorem better_ge {S f q p0} (h1 : p0 ≤ q.1 ∧ p0 ≤ q.2) (h : ∀ r, f = some r → p0 ≤ r.1 ∧ p0 ≤ r.2) : ∀ r, better S f q = some r → p0 ≤ r.1 ∧ p0 ≤ r.2 := by
  intro r e
  unfold better at e
  split at e
  · cases e; exact h1
  · exact h r e
theorem scanRow_ge {S p i} (hi : p ≤ i) : ∀ {k f}, (∀ r, f = some r → p ≤ r.1 ∧ p ≤ r.2) → ∀ r, scanRow S p i k f = some r → p ≤ r.1 ∧ p ≤ r.2
  | 0, _, h => h
  | k + 1, _, h => better_ge ⟨hi, by show p ≤ p + k; (with_reducible exact Nat.le_add_right _ _)⟩ (scanRow_ge hi h)
theorem scanAll_ge {S p m} : ∀ {k} r, scanAll S p m k = some r → p ≤ r.1 ∧ p ≤ r.2
  | 0 => fun r e => by cases e
  | k + 1 => scanRow_ge (by (with_reducible exact Nat.le_add_right _ _)) scanAll_ge
theorem better_none {S f q} (h : better S f q = none) : f = none ∧ S q.1 q.2 = 0 := by
  unfold better at h
  split at h
  · cases h
  · rename_i c
    subst h
    refine ⟨rfl, ?_⟩
    simp [lessOr] at c
    exact c
theorem scanRow_none {S p i} : ∀ {k f}, scanRow S p i k f = none → f = none ∧ ∀ y, p ≤ y → y < p + k → S i y = 0
  | 0, f, h => ⟨h, fun y h1 h2 => by omega⟩
  | k + 1, f, h => by
    have h' := better_none (f := scanRow S p i k f) h
    have ih := scanRow_none h'.1
    refine ⟨ih.1, fun y h1 h2 => ?_⟩
    by_cases e : y = p + k
    · subst e; exact h'.2
    · exact ih.2 y h1 (by omega)
theorem scanAll_none {S p m} : ∀ {k}, scanAll S p m k = none → ∀ x y, p ≤ x → x < p + k → p ≤ y → y < p + m → S x y = 0
  | 0, h => fun x y h1 h2 => by omega
  | k + 1, h => by
    have h' := scanRow_none (f := scanAll S p m k) h
    intro x y h1 h2 h3 h4
    by_cases e : x = p + k
    · subst e; exact h'.2 y h3 h4
    · exact scanAll_none h'.1 x y h1 (by omega) h3 h4
theorem firstU_none {S p m} : ∀ {k}, firstU S p m k = none → ∀ i, i < k → undiv S p m (p + 1 + i) = false
  | 0, h => fun i hi => by (with_reducible exact absurd (by assumption) (Nat.not_lt_zero _))
  | k + 1, h => by
    have h' : (firstU S p m k).or (if undiv S p m (p + 1 + k) then some (p + 1 + k) else none) = none := h
    cases e : firstU S p m k with
    | some y => rw [e] at h'; cases h'
    | none =>
      rw [e] at h'
      intro i hi
      by_cases e2 : i = k
      · subst e2
        cases hu : undiv S p m (p + 1 + i) with
        | false => rfl
        | true => rw [hu] at h'; cases h'
      · exact firstU_none e i (by omega)
theorem undiv_false {S p m x} (h : undiv S p m x = false) : ∀ j, j < m → S p p ∣ S x (p + 1 + j) := by
  intro j hj
  unfold undiv at h
  simp only [Bool.not_eq_false', List.isEmpty_iff, List.filter_eq_nil_iff, List.mem_range] at h
  have := h j hj
  simp at this
  exact Int.dvd_of_fmod_eq_zero this
theorem swp_of {i p x : Nat} (hi : p ≤ i) (hx : x < p) : swp i p x = x := by unfold swp; rw [if_neg (by omega), if_neg (by (with_reducible exact Nat.ne_of_lt (by assumption)))]
theorem swp_ge {i p x : Nat} (hi : p ≤ i) (hx : p ≤ x) : p ≤ swp i p x := by unfold swp; split <;> (try split) <;> omega
theorem Pre.brg {i j : Nat} (h : Pre n S p) (hi : i < n) (hj : j < n) (hp : p < n) (gi : p ≤ i) (gj : p ≤ j) : Pre n (brg S i j p) p where
  z x y hx hy ne o := by
    show S (swp i p x) (swp j p y) = 0
    refine h.z _ _ (swp_lt' hi hp hx) (swp_lt' hj hp hy) ?_ ?_
    · rcases Nat.lt_or_ge x p with a | a <;> rcases Nat.lt_or_ge y p with b | b
      · rw [swp_of gi a, swp_of gj b]; exact ne
      · have := swp_ge gj b; rw [swp_of gi a]; omega
      · have := swp_ge gi a; rw [swp_of gj b]; omega
      · omega
    · rcases o with o | o
      · left; rw [swp_of gi o]; exact o
      · right; rw [swp_of gj o]; exact o
  nn q hq := by show 0 ≤ S (swp i p q) (swp j p q); rw [swp_of gi hq, swp_of gj hq]; exact h.nn q hq
  dv q x y hq h1 h2 hx hy := by
    show S (swp i p q) (swp j p q) ∣ S (swp i p x) (swp j p y)
    rw [swp_of gi hq, swp_of gj hq]
    refine h.dv q _ _ hq ?_ ?_ (swp_lt' hi hp hx) (swp_lt' hj hp hy)
    · rcases Nat.lt_or_ge x p with a | a
      · rw [swp_of gi a]; exact h1
      · have := swp_ge gi a; omega
    · rcases Nat.lt_or_ge y p with a | a
      · rw [swp_of gj a]; exact h2
      · have := swp_ge gj a; omega
theorem Pre.addRow {c : Nat → Int} {r : Nat} (h : Pre n M p) (hr : r < n) (gr : p ≤ r) (h0 : ∀ x, x < p → c x = 0) (e : ∀ x y, x < n → y < n → M' x y = M x y + c x * M r y) (hn : p ≤ n) : Pre n M' p where
  z x y hx hy ne o := by
    rw [e x y hx hy, h.z x y hx hy ne o]
    by_cases hxp : x < p
    · rw [h0 x hxp]; simp
    · rw [h.z r y hr hy (by omega) (.inr (by omega))]; simp
  nn q hq := by rw [e q q (by (with_reducible exact Nat.lt_of_lt_of_le (by assumption) (by assumption))) (by (with_reducible exact Nat.lt_of_lt_of_le (by assumption) (by assumption))), h0 q hq]; simpa using h.nn q hq
  dv q x y hq h1 h2 hx hy := by
    rw [e q q (by (with_reducible exact Nat.lt_of_lt_of_le (by assumption) (by assumption))) (by (with_reducible exact Nat.lt_of_lt_of_le (by assumption) (by assumption))), h0 q hq, e x y hx hy]
    simp only [Int.zero_mul, Int.add_zero]
    exact Int.dvd_add (h.dv q x y hq h1 h2 hx hy) (Int.dvd_mul_of_dvd_right (h.dv q r y hq (by omega) h2 hr hy))
theorem Pre.addCol {c : Nat → Int} {r : Nat} (h : Pre n M p) (hr : r < n) (gr : p ≤ r) (h0 : ∀ x, x < p → c x = 0) (e : ∀ x y, x < n → y < n → M' x y = M x y + c y * M x r) (hn : p ≤ n) : Pre n M' p where
  z x y hx hy ne o := by
    rw [e x y hx hy, h.z x y hx hy ne o]
    by_cases hyp : y < p
    · rw [h0 y hyp]; simp
    · rw [h.z x r hx hr (by omega) (.inl (by omega))]; simp
  nn q hq := by rw [e q q (by (with_reducible exact Nat.lt_of_lt_of_le (by assumption) (by assumption))) (by (with_reducible exact Nat.lt_of_lt_of_le (by assumption) (by assumption))), h0 q hq]; simpa using h.nn q hq
  dv q x y hq h1 h2 hx hy := by
    rw [e q q (by (with_reducible exact Nat.lt_of_lt_of_le (by assumption) (by assumption))) (by (with_reducible exact Nat.lt_of_lt_of_le (by assumption) (by assumption))), h0 q hq, e x y hx hy]
    simp only [Int.zero_mul, Int.add_zero]
    exact Int.dvd_add (h.dv q x y hq h1 h2 hx hy) (Int.dvd_mul_of_dvd_right (h.dv q x r hq h1 (by omega) hx hr))
theorem Pre.clr (h : Pre n M p) (hp : p < n) : Pre n (clr n M p) p := by
  refine Pre.addCol (M := RP M M p (n - (p + 1))) (c := fun y => if p < y then - colQ M p y else 0) (r := p)
    (Pre.addRow (c := fun x => if p < x then - rowQ M p x else 0) (r := p) h hp (Nat.le_refl _) (fun x hx => by simp [show ¬ p < x by omega]) (fun x y hx hy => ?_) (by (with_reducible exact Nat.le_of_lt (by assumption)))) hp (Nat.le_refl _) (fun x hx => by simp [show ¬ p < x by omega]) (fun x y hx hy => ?_) (by (with_reducible exact Nat.le_of_lt (by assumption)))
  · unfold RP
    by_cases h : p < x
    · rw [if_pos (by omega)]; simp only [h, if_true]; grind
    · rw [if_neg (by omega)]; simp [h]
  · show CP M (RP M M p (n - (p + 1))) p (n - (p + 1)) x y = _
    unfold CP
    by_cases h : p < y
    · rw [if_pos (by omega)]; simp only [h, if_true]; grind
    · rw [if_neg (by omega)]; simp [h]
end
end Mine
end
-- Sm4
section
set_option Elab.async false
set_option linter.unusedVariables false
namespace Mine
section
variable {n k p : Nat} {M M' S : Nat → Nat → Int}
theorem clr_col0 {x : Nat} (hp : p < n) (hx : x < n) (h : p < x) : clr n M p x p = M x p - rowQ M p x * M p p := clr_row hp hx h (Nat.le_refl p)
theorem clr_row0 {y : Nat} (hp : p < n) (hy : y < n) (h : p < y) : clr n M p p y = M p y - colQ M p y * M p p := by
  unfold clr CP; rw [if_pos (by omega), RP_at, RP_at]
theorem isDone_col {x : Nat} (h : isDone n M p = true) (hp : p < n) (hx : x < n) (hpx : p < x) : clr n M p x p = 0 := by
  unfold isDone at h
  rw [Bool.and_eq_true] at h
  have h1 := h.1
  unfold zrow at h1
  rw [List.all_eq_true] at h1
  have := h1 (x - (p + 1)) (by simp; omega)
  rw [Nat.add_sub_of_le (show p + 1 ≤ x from hpx)] at this
  rw [clr_col0 hp hx hpx]
  simpa using this
theorem isDone_row {y : Nat} (h : isDone n M p = true) (hp : p < n) (hy : y < n) (hpy : p < y) : clr n M p p y = 0 := by
  unfold isDone at h
  rw [Bool.and_eq_true] at h
  have h1 := h.2
  unfold zcol at h1
  rw [List.all_eq_true] at h1
  have := h1 (y - (p + 1)) (by simp; omega)
  rw [Nat.add_sub_of_le (show p + 1 ≤ y from hpy)] at this
  rw [clr_row0 hp hy hpy]
  simpa using this
theorem Pre.negR (h : Pre n M p) (hp : p < n) : Pre n (negR M p) p where
  z x y hx hy ne o := by
    show setF M p _ x y = 0
    unfold setF
    split
    · rename_i e; subst e; show - M x y = 0; rw [h.z x y hx hy ne o]; rfl
    · exact h.z x y hx hy ne o
  nn q hq := by
    show 0 ≤ setF M p _ q q
    unfold setF; rw [if_neg (by (with_reducible exact Nat.ne_of_lt (by assumption)))]; exact h.nn q hq
  dv q x y hq h1 h2 hx hy := by
    show setF M p _ q q ∣ setF M p _ x y
    unfold setF; rw [if_neg (show ¬ q = p by (with_reducible exact Nat.ne_of_lt (by assumption)))]
    split
    · rename_i e; subst e; exact Int.dvd_neg.mpr (h.dv q x y hq h1 h2 hx hy)
    · exact h.dv q x y hq h1 h2 hx hy
theorem Pre.up (h : Pre n M p) (hp : p < n) (hc : ∀ x, x < n → p < x → M x p = 0) (hr : ∀ y, y < n → p < y → M p y = 0) (h0 : 0 ≤ M p p) (hd : ∀ x y, x < n → y < n → p < x → p < y → M p p ∣ M x y) : Pre n M (p + 1) where
  z x y hx hy ne o := by
    by_cases e : x < p ∨ y < p
    · exact h.z x y hx hy ne e
    · by_cases e1 : x = p
      · subst e1; exact hr y hy (by omega)
      · have : y = p := by omega
        subst this; exact hc x hx (by omega)
  nn q hq := by
    by_cases e : q = p
    · subst e; exact h0
    · exact h.nn q (by omega)
  dv q x y hq h1 h2 hx hy := by
    by_cases e : q = p
    · subst e
      by_cases ex : x = q
      · subst ex
        by_cases ey : y = x
        · subst ey; exact Int.dvd_refl _
        · rw [hr y hy (by omega)]; exact Int.dvd_zero _
      · by_cases ey : y = q
        · subst ey; rw [hc x hx (by omega)]; exact Int.dvd_zero _
        · exact hd x y hx hy (by omega) (by omega)
    · exact h.dv q x y (by omega) h1 h2 hx hy
theorem Run.pre {R : Nat → Nat → Int} {K : Nat} {S : Nat → Nat → Int} (r : Run n R K S p) : Pre n S p → p ≤ n → Pre n R n := by
  induction r with
  | fin h e =>
    subst e
    rename_i p
    intro P hp
    have : p = n := by (with_reducible exact Nat.le_antisymm (by assumption) (by assumption))
    subst this; exact P
  | zero h e1 e =>
    subst e
    rename_i p
    intro P hp
    have z := scanAll_none e1
    have zz : ∀ x y, x < n → y < n → p ≤ x → p ≤ y → _ := fun x y h1 h2 h3 h4 => z x y h3 (by rwa [Nat.add_sub_of_le hp]) h4 (by rwa [Nat.add_sub_of_le hp])
    refine ⟨fun x y hx hy ne _ => ?_, fun i hi => ?_, fun i x y hi h1 h2 hx hy => ?_⟩
    · by_cases e : x < p ∨ y < p
      · exact P.z x y hx hy ne e
      · exact zz x y hx hy (Nat.le_of_not_lt fun z => e (.inl z)) (Nat.le_of_not_lt fun z => e (.inr z))
    · by_cases e : i < p
      · exact P.nn i e
      · rw [zz i i hi hi (by (with_reducible exact Nat.le_of_not_lt (by assumption))) (by (with_reducible exact Nat.le_of_not_lt (by assumption)))]; exact Int.le_refl _
    · by_cases e : i < p
      · exact P.dv i x y e h1 h2 hx hy
      · rw [zz x y hx hy (by omega) (by omega)]; exact Int.dvd_zero _
  | pass h e1 b d r ih =>
    intro P hp
    have hin : InB n (some _) := e1 ▸ scanAll_in (Nat.le_of_eq (Nat.add_sub_of_le (Nat.le_of_lt h))) (Nat.le_of_eq (Nat.add_sub_of_le (Nat.le_of_lt h)))
    have hge := scanAll_ge _ e1
    exact ih ((P.brg hin.1 hin.2 h hge.1 hge.2).clr h) hp
  | add h e1 b d f r ih =>
    intro P hp
    have hin : InB n (some _) := e1 ▸ scanAll_in (Nat.le_of_eq (Nat.add_sub_of_le (Nat.le_of_lt h))) (Nat.le_of_eq (Nat.add_sub_of_le (Nat.le_of_lt h)))
    have hge := scanAll_ge _ e1
    have hx := firstU_lt f
    rename_i p _ _ x
    refine ih (((P.brg hin.1 hin.2 h hge.1 hge.2).clr h).addRow (c := fun z => if z = p then 1 else 0) (r := x) (by omega) (by omega) (fun z hz => by simp [show ¬ z = p by (with_reducible exact Nat.ne_of_lt (by assumption))]) (fun z y hz hy => ?_) hp) hp
    unfold Mine.addR setF
    by_cases e : z = p
    · subst e; simp
    · simp [e]
  | next h e1 b d f r ih =>
    intro P hp
    have hin : InB n (some _) := e1 ▸ scanAll_in (Nat.le_of_eq (Nat.add_sub_of_le (Nat.le_of_lt h))) (Nat.le_of_eq (Nat.add_sub_of_le (Nat.le_of_lt h)))
    have hge := scanAll_ge _ e1
    have P2 := (P.brg hin.1 hin.2 h hge.1 hge.2).clr h
    rename_i S p i j
    have hc := fun x hx hpx => isDone_col d h (x := x) hx hpx
    have hr := fun x hx hpx => isDone_row d h (y := x) hx hpx
    have hd : ∀ x y, x < n → y < n → p < x → p < y → clr n (brg S i j p) p p p ∣ clr n (brg S i j p) p x y := fun x y hx hy h1 h2 => by
      have := undiv_false (firstU_none f (x - (p + 1)) (Nat.sub_lt_sub_right h1 hx)) (y - (p + 1)) (Nat.sub_lt_sub_right h2 hy)
      rwa [Nat.add_sub_of_le (show p + 1 ≤ x from h1), Nat.add_sub_of_le (show p + 1 ≤ y from h2)] at this
    generalize hC : clr n (brg S i j p) p = C at *
    refine ih ?_ (by (with_reducible exact Nat.succ_le_of_lt (by assumption)))
    split
    · rename_i hneg
      refine (P2.negR h).up h (fun x hx hpx => ?_) (fun y hy hpy => ?_) ?_ (fun x y hx hy h1 h2 => ?_)
      · show setF C p _ x p = 0; unfold setF; rw [if_neg (by (with_reducible exact Nat.ne_of_gt (by assumption)))]; exact hc x hx hpx
      · show setF C p _ p y = 0; unfold setF; rw [if_pos rfl, hr y hy hpy]; rfl
      · show 0 ≤ setF C p _ p p; unfold setF; rw [if_pos rfl]; omega
      · show setF C p _ p p ∣ setF C p _ x y
        unfold setF; rw [if_pos rfl, if_neg (by (with_reducible exact Nat.ne_of_gt (by assumption)))]; exact Int.neg_dvd.mpr (hd x y hx hy h1 h2)
    · rename_i hneg
      exact P2.up h hc hr (by (with_reducible exact Int.le_of_not_gt (by assumption))) hd
end
end Mine
end
-- Sm5
section
set_option Elab.async false
set_option linter.unusedVariables false
namespace Mine
theorem bezN : ∀ (k a b : Nat), b < k → ∃ u v : Int, (a : Int) * u + b * v = Nat.gcd a b
  | 0, a, b, h => by (with_reducible exact absurd (by assumption) (Nat.not_lt_zero _))
  | k + 1, a, b, h => by
    by_cases hb : b = 0
    · subst hb; exact ⟨1, 0, by simp⟩
    · obtain ⟨u, v, e⟩ := bezN k b (a % b) (by have := Nat.mod_lt a (Nat.pos_of_ne_zero hb); omega)
      refine ⟨v, u - (a / b : Nat) * v, ?_⟩
      have e2 : Nat.gcd a b = Nat.gcd b (a % b) := by rw [Nat.gcd_comm a b, Nat.gcd_rec, Nat.gcd_comm]
      rw [e2, ← e]
      have e3 : (a : Int) = b * (a / b : Nat) + (a % b : Nat) := by exact_mod_cast (Nat.div_add_mod a b).symm
      generalize (a / b : Nat) = d at *
      generalize (a % b : Nat) = r at *
      rw [e3]; grind
theorem bez (a b : Int) : ∃ u v : Int, a * u + b * v = Int.gcd a b := by
  obtain ⟨u, v, e⟩ := bezN _ a.natAbs b.natAbs (Nat.lt_succ_self _)
  refine ⟨a.sign * u, b.sign * v, ?_⟩
  show _ = ((Nat.gcd a.natAbs b.natAbs : Nat) : Int)
  rw [← e, ← Int.mul_assoc, ← Int.mul_assoc, Int.mul_comm a a.sign, Int.mul_comm b b.sign, Int.sign_mul_self, Int.sign_mul_self]
/-- the gcd of k numbers is a combination of them -/
theorem bezL (v : Nat → Int) : ∀ k, ∃ (s : Nat → Int) (g : Int), sumTo (fun x => s x * v x) k = g ∧ ∀ x, x < k → g ∣ v x
  | 0 => ⟨fun _ => 0, 0, rfl, fun x h => by (with_reducible exact absurd (by assumption) (Nat.not_lt_zero _))⟩
  | k + 1 => by
    obtain ⟨s, g, e, h⟩ := bezL v k
    obtain ⟨a, b, e2⟩ := bez g (v k)
    refine ⟨fun x => if x < k then a * s x else b, Int.gcd g (v k), ?_, fun x hx => ?_⟩
    · show sumTo _ k + _ = _
      rw [sumTo_congr (g := fun x => a * (s x * v x)) fun t ht => by simp only [ht, if_true]; grind, sumTo_mul, e, ← e2]
      simp only [Nat.lt_irrefl, if_false]; grind
    · by_cases e3 : x = k
      · subst e3; exact Int.gcd_dvd_right ..
      · exact Int.dvd_trans (Int.gcd_dvd_left ..) (h x (by omega))
theorem sumTo_zero {f : Nat → Int} : ∀ {k}, (∀ t, t < k → f t = 0) → sumTo f k = 0
  | 0, _ => rfl
  | k + 1, h => by show sumTo f k + f k = 0; rw [sumTo_zero fun t ht => h t (by (with_reducible exact Nat.lt_succ_of_lt (by assumption))), h k (by (with_reducible exact Nat.lt_succ_self _))]; rfl
theorem sumTo_one {f : Nat → Int} {i : Nat} : ∀ {k}, i < k → (∀ t, t < k → t ≠ i → f t = 0) → sumTo f k = f i
  | 0, h, _ => by (with_reducible exact absurd (by assumption) (Nat.not_lt_zero _))
  | k + 1, h, z => by
    show sumTo f k + f k = f i
    by_cases e : i = k
    · subst e; rw [sumTo_zero fun t ht => z t (by (with_reducible exact Nat.lt_succ_of_lt (by assumption))) (by (with_reducible exact Nat.ne_of_lt (by assumption)))]; simp
    · rw [sumTo_one (by omega) fun t ht ne => z t (by (with_reducible exact Nat.lt_succ_of_lt (by assumption))) ne, z k (by (with_reducible exact Nat.lt_succ_self _)) (Ne.symm e)]; simp
end Mine
end
-- Sm6
section
set_option Elab.async false
set_option linter.unusedVariables false
namespace Mine
theorem sumTo_upd {f : Nat → Int} {r : Nat} {b : Int} : ∀ {k}, r < k → sumTo (fun x => if x = r then b else f x) k = sumTo f k - f r + b
  | 0, h => by (with_reducible exact absurd (by assumption) (Nat.not_lt_zero _))
  | k + 1, h => by
    show sumTo _ k + (if k = r then b else f k) = sumTo f k + f k - f r + b
    by_cases e : k = r
    · subst e
      rw [if_pos rfl, sumTo_congr (g := f) fun t ht => if_neg (by (with_reducible exact Nat.ne_of_lt (by assumption)))]; omega
    · rw [if_neg e, sumTo_upd (by omega)]; omega
theorem sumTo_swp {f : Nat → Int} {r k : Nat} (h : r ≤ k) : sumTo (fun x => f (swp r k x)) (k + 1) = sumTo f (k + 1) := by
  show sumTo _ k + f (swp r k k) = sumTo f k + f k
  by_cases e : r = k
  · subst e
    rw [sumTo_congr (g := f) fun t ht => by unfold swp; rw [if_neg (by (with_reducible exact Nat.ne_of_lt (by assumption))), if_neg (by (with_reducible exact Nat.ne_of_lt (by assumption)))]]
    unfold swp; simp
  · rw [sumTo_congr (g := fun x => if x = r then f k else f x) fun t ht => by
      show f (swp r k t) = if t = r then f k else f t
      unfold swp
      by_cases e2 : t = r
      · simp [e2]
      · rw [if_neg e2, if_neg (by (with_reducible exact Nat.ne_of_lt (by assumption))), if_neg e2], sumTo_upd (by (with_reducible exact Nat.lt_of_le_of_ne (by assumption) (by assumption)))]
    have : swp r k k = r := by unfold swp; rw [if_neg (fun z => e z.symm), if_pos rfl]
    rw [this]; omega
theorem nullv : ∀ (k : Nat) (X : Nat → Nat → Int), ∃ v : Nat → Int, (∃ x, x < k + 1 ∧ v x ≠ 0) ∧ ∀ t, t < k → sumTo (fun x => v x * X x t) (k + 1) = 0
  | 0, X => ⟨fun _ => 1, ⟨0, by decide, by decide⟩, fun t h => by (with_reducible exact absurd (by assumption) (Nat.not_lt_zero _))⟩
  | k + 1, X => by
    by_cases hz : ∀ x, x < k + 2 → X x k = 0
    · obtain ⟨v, ⟨x, hx, hv⟩, h⟩ := nullv k X
      refine ⟨fun x => if x < k + 1 then v x else 0, ⟨x, by (with_reducible exact Nat.lt_succ_of_lt (by assumption)), by simp only [hx, if_true]; exact hv⟩, fun t ht => ?_⟩
      by_cases e : t = k
      · subst e; exact sumTo_zero fun x hx => by rw [hz x hx]; simp
      · show sumTo _ (k + 1) + (if k + 1 < k + 1 then v (k + 1) else 0) * _ = 0
        rw [sumTo_congr (g := fun x => v x * X x t) fun x hx => by simp only [hx, if_true], h t (by omega)]; simp
    · obtain ⟨r, hr, ha⟩ : ∃ r, r < k + 2 ∧ X r k ≠ 0 := by
        apply Classical.byContradiction
        intro c
        exact hz fun x hx => Classical.byContradiction fun h => c ⟨x, hx, h⟩
      let X1 : Nat → Nat → Int := fun x t => X (swp r (k + 1) x) t
      have ha1 : X1 (k + 1) k = X r k := by
        show X (swp r (k + 1) (k + 1)) k = X r k
        unfold swp
        by_cases e : k + 1 = r
        · rw [if_pos e, e]
        · rw [if_neg e, if_pos rfl]
      obtain ⟨wv, ⟨x, hx, hw⟩, h⟩ := nullv k (fun x t => X r k * X1 x t - X1 x k * X1 (k + 1) t)
      let T : Int := sumTo (fun x => wv x * X1 x k) (k + 1)
      let v1 : Nat → Int := fun x => if x < k + 1 then X r k * wv x else - T
      have hsum : ∀ t, t < k + 1 → sumTo (fun x => v1 x * X1 x t) (k + 2) = 0 := by
        intro t ht
        show sumTo (fun x => v1 x * X1 x t) (k + 1) + v1 (k + 1) * X1 (k + 1) t = 0
        have e1 : v1 (k + 1) = - T := by show (if k + 1 < k + 1 then _ else - T) = _; simp
        have e2 : sumTo (fun x => v1 x * X1 x t) (k + 1) = X r k * sumTo (fun x => wv x * X1 x t) (k + 1) := by
          rw [← sumTo_mul]
          exact sumTo_congr fun x hx => by show (if x < k + 1 then _ else _) * _ = _; rw [if_pos hx]; grind
        rw [e1, e2]
        by_cases e : t = k
        · subst e; rw [ha1]; show X r t * T + - T * X r t = 0; grind
        · have h' := h t (by omega)
          have e3 : sumTo (fun x => wv x * (X r k * X1 x t - X1 x k * X1 (k + 1) t)) (k + 1) = X r k * sumTo (fun x => wv x * X1 x t) (k + 1) + (- X1 (k + 1) t) * T := by
            show _ = _ + (- X1 (k + 1) t) * sumTo (fun x => wv x * X1 x k) (k + 1)
            rw [← sumTo_mul, ← sumTo_mul, ← sumTo_add]
            exact sumTo_congr fun x hx => by grind
          rw [e3] at h'
          grind
      refine ⟨fun x => v1 (swp r (k + 1) x), ⟨swp r (k + 1) x, swp_lt' (n := k + 2) hr (by (with_reducible exact Nat.lt_succ_self _)) (by (with_reducible exact Nat.lt_succ_of_lt (by assumption))), ?_⟩, fun t ht => ?_⟩
      · show v1 (swp r (k + 1) (swp r (k + 1) x)) ≠ 0
        rw [swp_swp]
        show (if x < k + 1 then X r k * wv x else - T) ≠ 0
        rw [if_pos hx]; exact Int.mul_ne_zero ha hw
      · rw [← hsum t ht, ← sumTo_swp (f := fun x => v1 x * X1 x t) (r := r) (k := k + 1) (by (with_reducible exact Nat.le_of_lt_succ (by assumption)))]
        exact sumTo_congr fun x hx => by show v1 (swp r (k + 1) x) * X x t = v1 (swp r (k + 1) x) * X (swp r (k + 1) (swp r (k + 1) x)) t; rw [swp_swp]
end Mine
end
-- Sm7
section
set_option Elab.async false
set_option linter.unusedVariables false
namespace Mine
theorem sumTo_comm {f : Nat → Nat → Int} {k : Nat} : ∀ {m}, sumTo (fun x => sumTo (fun t => f x t) k) m = sumTo (fun t => sumTo (fun x => f x t) m) k
  | 0 => (sumTo_zero fun t ht => rfl).symm
  | m + 1 => by
    show sumTo _ m + sumTo (fun t => f m t) k = sumTo (fun t => sumTo (fun x => f x t) m + f m t) k
    rw [sumTo_add, sumTo_comm]
theorem sumTo_dvd {f : Nat → Int} {q : Int} : ∀ {k}, (∀ t, t < k → q ∣ f t) → q ∣ sumTo f k
  | 0, _ => Int.dvd_zero _
  | k + 1, h => Int.dvd_add (sumTo_dvd fun t ht => h t (by (with_reducible exact Nat.lt_succ_of_lt (by assumption)))) (h k (by (with_reducible exact Nat.lt_succ_self _)))
noncomputable def diagF (e : Nat → Int) : Nat → Nat → Int := fun x y => if x = y then e x else 0
theorem FF_diag {n k : Nat} {e : Nat → Int} {q : Int} (hk : k < n) (hc : ∀ i j, i ≤ j → j < n → e i ∣ e j) : FF n (diagF e) q k ↔ q ∣ e k := by
  constructor
  · intro zz0
    obtain ⟨X, Y, h⟩ := zz0
    obtain ⟨v, ⟨x0, hx0, hv0⟩, hv⟩ := nullv k X
    obtain ⟨s, g, hs, hg⟩ := bezL v (k + 1)
    have hg0 : g ≠ 0 := fun z => hv0 (by have := hg x0 hx0; rw [z] at this; exact Int.zero_dvd.mp this)
    let u : Nat → Int := fun x => v x / g
    have hu : ∀ x, x < k + 1 → v x = g * u x := fun x hx => (Int.mul_ediv_cancel' (hg x hx)).symm
    have hu0 : ∀ t, t < k → sumTo (fun x => u x * X x t) (k + 1) = 0 := fun t ht => by
      have := hv t ht
      rw [sumTo_congr (g := fun x => g * (u x * X x t)) fun x hx => by rw [hu x hx]; grind, sumTo_mul] at this
      exact (Int.mul_eq_zero.mp this).resolve_left hg0
    have hs1 : sumTo (fun x => s x * u x) (k + 1) = 1 := by
      rw [sumTo_congr (g := fun x => g * (s x * u x)) fun x hx => by rw [hu x hx]; grind, sumTo_mul] at hs
      have : g * (sumTo (fun x => s x * u x) (k + 1) - 1) = 0 := by rw [Int.mul_sub, hs]; omega
      have := (Int.mul_eq_zero.mp this).resolve_left hg0
      omega
    have key : ∀ y, y < k + 1 → q ∣ u y * e y := fun y hy => by
      have h1 : q ∣ sumTo (fun x => u x * (diagF e x y - sumTo (fun t => X x t * Y t y) k)) (k + 1) :=
        sumTo_dvd fun x hx => Int.dvd_mul_of_dvd_right (h x y (by omega) (by omega))
      have h2 : sumTo (fun x => u x * (diagF e x y - sumTo (fun t => X x t * Y t y) k)) (k + 1) = u y * e y := by
        rw [sumTo_congr (g := fun x => u x * diagF e x y + (-1) * sumTo (fun t => u x * X x t * Y t y) k) fun x hx => by
          rw [show sumTo (fun t => u x * X x t * Y t y) k = u x * sumTo (fun t => X x t * Y t y) k from by rw [← sumTo_mul]; exact sumTo_congr fun t _ => by grind]; grind]
        rw [sumTo_add, sumTo_mul, sumTo_comm, sumTo_zero (f := fun t => sumTo (fun x => u x * X x t * Y t y) (k + 1)) fun t ht => ?_, sumTo_one (i := y) hy fun t ht ne => by show u t * (if t = y then e t else 0) = 0; rw [if_neg ne]; simp]
        · show u y * (if y = y then e y else 0) + _ = _; simp
        · show sumTo (fun x => u x * X x t * Y t y) (k + 1) = 0
          rw [sumTo_congr (g := fun x => Y t y * (u x * X x t)) fun x hx => by grind, sumTo_mul, hu0 t ht]; simp
      rwa [h2] at h1
    have : e k = sumTo (fun y => e k * (s y * u y)) (k + 1) := by rw [sumTo_mul, hs1]; simp
    rw [this]
    refine sumTo_dvd fun y hy => ?_
    obtain ⟨c, hc'⟩ := hc y k (by (with_reducible exact Nat.le_of_lt_succ (by assumption))) hk
    obtain ⟨d, hd⟩ := key y hy
    exact ⟨c * s y * d, by rw [hc']; grind⟩
  · intro hq
    refine ⟨fun x t => if x = t then e x else 0, fun t y => if t = y then 1 else 0, fun x y hx hy => ?_⟩
    by_cases hxy : x = y
    · subst hxy
      by_cases hxk : x < k
      · rw [sumTo_one (i := x) hxk fun t ht ne => by simp [Ne.symm ne]]
        simp [diagF]
      · rw [sumTo_zero fun t ht => by simp [show x ≠ t by omega]]
        simp only [diagF, if_true, Int.sub_zero]
        exact Int.dvd_trans hq (hc k x (by (with_reducible exact Nat.le_of_not_lt (by assumption))) hx)
    · rw [sumTo_zero fun t ht => by
        by_cases e1 : x = t
        · subst e1; simp [hxy]
        · simp [e1]]
      simp [diagF, hxy]
/-- two chains of the same class are the same but for sign -/
theorem chain_unique {n : Nat} {e e' : Nat → Int} (h : Eqv n (diagF e) (diagF e')) (hc : ∀ i j, i ≤ j → j < n → e i ∣ e j) (hc' : ∀ i j, i ≤ j → j < n → e' i ∣ e' j) :
    ∀ k, k < n → e k ∣ e' k ∧ e' k ∣ e k := fun k hk =>
  ⟨(FF_diag hk hc').mp ((h (e k) k).mp ((FF_diag hk hc).mpr (Int.dvd_refl _))), (FF_diag hk hc).mp ((h (e' k) k).mpr ((FF_diag hk hc').mpr (Int.dvd_refl _)))⟩
end Mine
end
-- Sm8
section
set_option Elab.async false
set_option linter.unusedSimpArgs false
set_option linter.unusedVariables false
namespace Mine
noncomputable def oth (i j x : Nat) : Nat := if x = i then j else if x = j then i else x
noncomputable def cf (i j : Nat) (p q r : Int) (x : Nat) : Int := if x = i then p else if x = j then q else r
theorem oth_lt {n i j x : Nat} (hi : i < n) (hj : j < n) (hx : x < n) : oth i j x < n := by
  unfold oth; split
  · exact hj
  · split
    · exact hi
    · exact hx
/-- rows i, j by [[p, p'], [q', q]] and columns i, j by the like -/
noncomputable def two (M : Nat → Nat → Int) (i j : Nat) (p p' q q' r r' t t' : Int) : Nat → Nat → Int := fun x y =>
  cf i j r t 1 y * (cf i j p q 1 x * M x y + cf i j p' q' 0 x * M (oth i j x) y) + cf i j r' t' 0 y * (cf i j p q 1 x * M x (oth i j y) + cf i j p' q' 0 x * M (oth i j x) (oth i j y))
theorem FF.two {n k : Nat} {M M' : Nat → Nat → Int} {q0 : Int} {i j : Nat} (p p' q q' r r' t t' : Int) (hi : i < n) (hj : j < n) (h : FF n M q0 k)
    (e : ∀ x y, x < n → y < n → M' x y = Mine.two M i j p p' q q' r r' t t' x y) : FF n M' q0 k :=
  (h.row2 (M' := fun x y => cf i j p q 1 x * M x y + cf i j p' q' 0 x * M (oth i j x) y) (σ := id) (τ := oth i j) (a := cf i j p q 1) (c := cf i j p' q' 0) (fun x hx => hx) (fun x hx => oth_lt hi hj hx) fun x y _ _ => rfl).col2
    (σ := id) (τ := oth i j) (a := cf i j r t 1) (c := cf i j r' t' 0) (fun x hx => hx) (fun x hx => oth_lt hi hj hx) e
noncomputable def put2 (e : Nat → Int) (i j : Nat) (a b : Int) : Nat → Int := fun x => if x = i then a else if x = j then b else e x
theorem two_diag {e : Nat → Int} {i j : Nat} {p p' q q' r r' t t' a b : Int} (hij : i ≠ j)
    (h1 : p * r * e i + p' * r' * e j = a) (h2 : q' * r * e i + q * r' * e j = 0) (h3 : p * t' * e i + p' * t * e j = 0) (h4 : q' * t' * e i + q * t * e j = b) (x y : Nat) :
    diagF (put2 e i j a b) x y = two (diagF e) i j p p' q q' r r' t t' x y := by
  unfold two diagF put2 cf oth
  by_cases x1 : x = i
  · by_cases y1 : y = i
    · subst x1; subst y1; simp [hij, Ne.symm hij]; grind
    · by_cases y2 : y = j
      · subst x1; subst y2; simp [hij, Ne.symm hij]; grind
      · subst x1; simp [hij, Ne.symm hij, y1, y2, Ne.symm y1, Ne.symm y2]
  · by_cases x2 : x = j
    · by_cases y1 : y = i
      · subst x2; subst y1; simp [hij, Ne.symm hij]; grind
      · by_cases y2 : y = j
        · subst x2; subst y2; simp [hij, Ne.symm hij]; grind
        · subst x2; simp [hij, Ne.symm hij, y1, y2, Ne.symm y1, Ne.symm y2]
    · by_cases y1 : y = i
      · subst y1; simp [hij, Ne.symm hij, x1, x2]
      · by_cases y2 : y = j
        · subst y2; simp [hij, Ne.symm hij, x1, x2]
        · simp [x1, x2, y1, y2]
end Mine
end
-- Sm9
section
set_option Elab.async false
set_option linter.unusedVariables false
namespace Mine
noncomputable def lc (a b : Int) : Int := a * (b / Int.gcd a b)
theorem Eqv.glue {n i j : Nat} {e : Nat → Int} (hi : i < n) (hj : j < n) (hij : i ≠ j) : Eqv n (diagF e) (diagF (put2 e i j (Int.gcd (e i) (e j)) (lc (e i) (e j)))) := by
  by_cases hg : Int.gcd (e i) (e j) = 0
  · have h := Int.gcd_eq_zero_iff.mp hg
    have : put2 e i j (Int.gcd (e i) (e j)) (lc (e i) (e j)) = e := by
      funext x
      unfold put2 lc
      rw [h.1, h.2]
      by_cases x1 : x = i
      · subst x1; simp [h.1]
      · by_cases x2 : x = j
        · subst x2; simp [h.2, x1]
        · simp [x1, x2]
    rw [this]; exact fun _ _ => Iff.rfl
  · obtain ⟨u, v, huv⟩ := bez (e i) (e j)
    obtain ⟨a', ha⟩ : (Int.gcd (e i) (e j) : Int) ∣ e i := Int.gcd_dvd_left ..
    obtain ⟨b', hb⟩ : (Int.gcd (e i) (e j) : Int) ∣ e j := Int.gcd_dvd_right ..
    have hl : lc (e i) (e j) = e i * b' := by
      unfold lc
      congr 1
      have hg' : (Int.gcd (e i) (e j) : Int) ≠ 0 := by exact_mod_cast hg
      generalize (Int.gcd (e i) (e j) : Int) = g at *
      rw [hb]; exact Int.mul_ediv_cancel_left _ hg'
    rw [hl]
    have hg' : (Int.gcd (e i) (e j) : Int) ≠ 0 := by exact_mod_cast hg
    generalize (Int.gcd (e i) (e j) : Int) = g at *
    have h1 : a' * u + b' * v = 1 := by
      have : g * (a' * u + b' * v - 1) = 0 := by rw [ha, hb] at huv; grind
      have := (Int.mul_eq_zero.mp this).resolve_left hg'
      omega
    intro q0 k
    constructor
    · intro h
      refine h.two u v a' (-b') 1 1 (u * a') (- (v * b')) hi hj fun x y _ _ => two_diag hij ?_ ?_ ?_ ?_ x y
      · grind
      · rw [ha, hb]; grind
      · rw [ha, hb]; grind
      · rw [ha, hb]
        have : a' * (u * a') + b' * (v * a') = a' := by grind
        grind
    · intro h
      have back : ∀ x y, x < n → y < n → diagF e x y = two (diagF (put2 e i j g (e i * b'))) i j a' (-v) u b' (u * a') (-1) 1 (v * b') x y := by
        intro x y _ _
        have e1 : put2 (put2 e i j g (e i * b')) i j (e i) (e j) = e := by
          funext z; unfold put2
          by_cases z1 : z = i
          · subst z1; simp
          · by_cases z2 : z = j
            · subst z2; simp [z1]
            · simp [z1, z2]
        have ei : put2 e i j g (e i * b') i = g := by unfold put2; simp
        have ej : put2 e i j g (e i * b') j = e i * b' := by unfold put2; simp [Ne.symm hij]
        have := two_diag (e := put2 e i j g (e i * b')) (i := i) (j := j) (p := a') (p' := -v) (q := u) (q' := b') (r := u * a') (r' := -1) (t := 1) (t' := v * b') (a := e i) (b := e j) hij
          (by rw [ei, ej, ha]; grind) (by rw [ei, ej, ha]; grind) (by rw [ei, ej, ha]; grind) (by rw [ei, ej, ha, hb]; grind) x y
        rwa [e1] at this
      exact h.two a' (-v) u b' (u * a') (-1) 1 (v * b') hi hj back
end Mine
end
-- Sm10
section
set_option Elab.async false
set_option linter.unusedVariables false
namespace Mine
noncomputable def xs (e : Nat → Int) (x : Int) : Nat → Int
  | 0 => x
  | i + 1 => lc (e i) (xs e x i)
noncomputable def ins (e : Nat → Int) (x : Int) : Nat → Int := fun k => (Int.gcd (e k) (xs e x k) : Nat)
theorem gcd_pull {g a b : Int} (hg : 0 ≤ g) : ((Int.gcd (g * a) (g * b) : Nat) : Int) = g * (Int.gcd a b : Nat) := by
  rw [Int.gcd_mul_left]
  have : ((g.natAbs : Nat) : Int) = g := Int.natAbs_of_nonneg hg
  rw [Int.natCast_mul, this]
theorem gcd_cop {a b c : Int} (h : ∃ u v : Int, a * u + b * v = 1) : Int.gcd (a * c) b = Int.gcd c b := by
  obtain ⟨u, v, h⟩ := h
  apply Nat.dvd_antisymm
  · have h1 : ((Int.gcd (a * c) b : Nat) : Int) ∣ a * c := Int.gcd_dvd_left ..
    have h2 : ((Int.gcd (a * c) b : Nat) : Int) ∣ b := Int.gcd_dvd_right ..
    have h3 : ((Int.gcd (a * c) b : Nat) : Int) ∣ c := by
      have e : (a * c) * u + b * (v * c) = c := by grind
      have := Int.dvd_add (Int.dvd_mul_of_dvd_left h1 (c := u)) (Int.dvd_mul_of_dvd_left h2 (c := v * c))
      rwa [e] at this
    exact Int.natCast_dvd_natCast.mp (Int.dvd_coe_gcd h3 h2)
  · have h1 : ((Int.gcd c b : Nat) : Int) ∣ c := Int.gcd_dvd_left ..
    have h2 : ((Int.gcd c b : Nat) : Int) ∣ b := Int.gcd_dvd_right ..
    exact Int.natCast_dvd_natCast.mp (Int.dvd_coe_gcd (Int.dvd_mul_of_dvd_right h1) h2)
theorem gcd_lc {a y c : Int} (h0 : 0 ≤ a) (h : a ∣ c) : (Int.gcd a y : Int) * (Int.gcd c (lc a y) : Nat) = a * (Int.gcd c y : Nat) := by
  by_cases hg : Int.gcd a y = 0
  · have := Int.gcd_eq_zero_iff.mp hg
    rw [this.1, this.2]; simp
  · obtain ⟨u, v, huv⟩ := bez a y
    obtain ⟨a', ha⟩ : (Int.gcd a y : Int) ∣ a := Int.gcd_dvd_left ..
    obtain ⟨b', hb⟩ : (Int.gcd a y : Int) ∣ y := Int.gcd_dvd_right ..
    obtain ⟨d, hd⟩ := h
    have hg' : (Int.gcd a y : Int) ≠ 0 := by exact_mod_cast hg
    have hg0 : 0 ≤ (Int.gcd a y : Int) := Int.natCast_nonneg _
    have hl : lc a y = a * b' := by
      unfold lc
      congr 1
      generalize (Int.gcd a y : Int) = g at *
      rw [hb]; exact Int.mul_ediv_cancel_left _ hg'
    rw [hl]
    generalize (Int.gcd a y : Int) = g at *
    have h1 : a' * u + b' * v = 1 := by
      have : g * (a' * u + b' * v - 1) = 0 := by rw [ha, hb] at huv; grind
      have := (Int.mul_eq_zero.mp this).resolve_left hg'
      omega
    -- c = a d, gcd (a d) (a b') = |a| gcd d b'
    have e1 : ((Int.gcd c (a * b') : Nat) : Int) = a.natAbs * (Int.gcd d b' : Nat) := by
      rw [hd, Int.gcd_mul_left]; simp
    have e2 : ((Int.gcd c y : Nat) : Int) = g * (Int.gcd d b' : Nat) := by
      have : c = g * (a' * d) := by rw [hd, ha]; grind
      rw [this, hb, gcd_pull hg0, gcd_cop ⟨u, v, h1⟩]
    have e3 : ((a.natAbs : Nat) : Int) = a := Int.natAbs_of_nonneg h0
    rw [e1, e2, e3]; grind
/-- a chain of numbers that are not negative -/
structure Chain (n : Nat) (e : Nat → Int) : Prop where
  nn : ∀ i, i < n → 0 ≤ e i
  dv : ∀ i j, i ≤ j → j < n → e i ∣ e j
theorem prodTo_nn {n : Nat} {e : Nat → Int} (h : ∀ i, i < n → 0 ≤ e i) : ∀ k, k ≤ n → 0 ≤ prodTo e k
  | 0, _ => by show (0 : Int) ≤ 1; decide
  | k + 1, hk => Int.mul_nonneg (prodTo_nn h k (by (with_reducible exact Nat.le_trans (Nat.le_add_right _ _) (by assumption)))) (h k (by (with_reducible exact Nat.lt_of_succ_le (by assumption))))
theorem ins_tele {n : Nat} {e : Nat → Int} {x : Int} (h : Chain n e) : ∀ k m, k ≤ m → m < n → prodTo (ins e x) k * (Int.gcd (e m) (xs e x k) : Nat) = prodTo e k * (Int.gcd (e m) x : Nat)
  | 0, m, _, _ => rfl
  | k + 1, m, hk, hm => by
    have ih := ins_tele h (x := x) k m (by (with_reducible exact Nat.le_trans (Nat.le_add_right _ _) (by assumption))) hm
    show prodTo (ins e x) k * ((Int.gcd (e k) (xs e x k) : Nat) : Int) * (Int.gcd (e m) (lc (e k) (xs e x k)) : Nat) = prodTo e k * e k * _
    have := gcd_lc (y := xs e x k) (h.nn k (by omega)) (h.dv k m (by (with_reducible exact Nat.le_trans (Nat.le_add_right _ _) (by assumption))) hm)
    generalize ((Int.gcd (e k) (xs e x k) : Nat) : Int) = a at *
    generalize ((Int.gcd (e m) (lc (e k) (xs e x k)) : Nat) : Int) = b at *
    generalize ((Int.gcd (e m) (xs e x k) : Nat) : Int) = c at *
    generalize ((Int.gcd (e m) x : Nat) : Int) = d at *
    grind
theorem ins_prod {n : Nat} {e : Nat → Int} {x : Int} (h : Chain n e) {k : Nat} (hk : k < n) : prodTo (ins e x) (k + 1) = (Int.gcd (prodTo e (k + 1)) (prodTo e k * x) : Nat) := by
  have := ins_tele h (x := x) k k (Nat.le_refl _) hk
  show prodTo (ins e x) k * _ = ((Int.gcd (prodTo e k * e k) (prodTo e k * x) : Nat) : Int)
  rw [gcd_pull (prodTo_nn (n := n) h.nn k (by (with_reducible exact Nat.le_of_lt (by assumption))))]
  exact this
theorem ins_chain {n : Nat} {e : Nat → Int} {x : Int} (h : Chain n e) : Chain n (ins e x) := by
  refine ⟨fun i _ => Int.natCast_nonneg _, ?_⟩
  have step : ∀ i, i + 1 < n → ins e x i ∣ ins e x (i + 1) := fun i hi => by
    have h1 : ins e x i ∣ e i := Int.gcd_dvd_left ..
    refine Int.dvd_coe_gcd (Int.dvd_trans h1 (h.dv i (i + 1) (by (with_reducible exact Nat.le_add_right _ _)) hi)) ?_
    show _ ∣ e i * _
    exact Int.dvd_mul_of_dvd_left h1
  intro i j hij hj
  obtain ⟨d, rfl⟩ : ∃ d, j = i + d := ⟨j - i, by omega⟩
  clear hij
  induction d with
  | zero => exact Int.dvd_refl _
  | succ d ih => exact Int.dvd_trans (ih (by omega)) (step (i + d) hj)
/-- comm counts the products of the chain -/
noncomputable def chainOf (left : Nat → Int) : Nat → Nat → Int
  | 0 => fun _ => 0
  | j + 1 => ins (chainOf left j) (left j)
theorem chainOf_chain {n : Nat} {left : Nat → Int} : ∀ j, Chain n (chainOf left j)
  | 0 => ⟨fun _ _ => Int.le_refl _, fun _ _ _ _ => Int.dvd_refl _⟩
  | j + 1 => ins_chain (chainOf_chain j)
theorem comm_eq {n : Nat} {left : Nat → Int} : ∀ j k, k ≤ n → comm left j k = prodTo (chainOf left j) k
  | 0, 0, _ => rfl
  | 0, k + 1, _ => by show 0 = prodTo _ k * 0; simp
  | j + 1, 0, _ => rfl
  | j + 1, k + 1, hk => by
    show ((Int.gcd (comm left j (k + 1)) (comm left j k * left j) : Nat) : Int) = prodTo (ins (chainOf left j) (left j)) (k + 1)
    rw [comm_eq (n := n) j (k + 1) hk, comm_eq (n := n) j k (by (with_reducible exact Nat.le_trans (Nat.le_add_right _ _) (by assumption))), ins_prod (chainOf_chain (n := n) j) (by (with_reducible exact Nat.lt_of_succ_le (by assumption)))]
end Mine
end
-- Sm11
section
set_option Elab.async false
set_option linter.unusedVariables false
namespace Mine
theorem xs_zero {e : Nat → Int} {x : Int} {j : Nat} (h : ∀ k, j ≤ k → e k = 0) : ∀ k, j < k → xs e x k = 0
  | 0, hk => by (with_reducible exact absurd (by assumption) (Nat.not_lt_zero _))
  | k + 1, hk => by show lc (e k) _ = 0; unfold lc; rw [h k (by (with_reducible exact Nat.le_of_lt_succ (by assumption)))]; simp
theorem chainOf_zero {left : Nat → Int} : ∀ j k, j ≤ k → chainOf left j k = 0
  | 0, k, _ => rfl
  | j + 1, k, h => by
    show ((Int.gcd (chainOf left j k) (xs (chainOf left j) (left j) k) : Nat) : Int) = 0
    rw [chainOf_zero j k (by (with_reducible exact Nat.le_trans (Nat.le_add_right _ _) (by assumption))), xs_zero (fun k hk => chainOf_zero j k hk) k (by (with_reducible exact Nat.lt_of_succ_le (by assumption)))]; rfl
noncomputable def stg (e t : Nat → Int) (x : Int) (j i : Nat) : Nat → Int := fun k => if k < i then ins e x k else if k < j then e k else if k = j then xs e x i else t k
theorem Eqv.refl {n M} : Eqv n M M := fun _ _ => Iff.rfl
theorem stg_eqv {n j : Nat} {e t : Nat → Int} {x : Int} (hj : j < n) : ∀ i, i ≤ j → Eqv n (diagF (stg e t x j 0)) (diagF (stg e t x j i))
  | 0, _ => Eqv.refl
  | i + 1, hi => by
    refine (stg_eqv hj i (by (with_reducible exact Nat.le_trans (Nat.le_add_right _ _) (by assumption)))).trans ?_
    have h := Eqv.glue (n := n) (i := i) (j := j) (e := stg e t x j i) (by omega) hj (by omega)
    have e1 : stg e t x j i i = e i := by unfold stg; rw [if_neg (by omega), if_pos (by (with_reducible exact Nat.lt_of_succ_le (by assumption)))]
    have e2 : stg e t x j i j = xs e x i := by unfold stg; rw [if_neg (by omega), if_neg (by omega), if_pos rfl]
    rw [e1, e2] at h
    have e3 : put2 (stg e t x j i) i j (Int.gcd (e i) (xs e x i)) (lc (e i) (xs e x i)) = stg e t x j (i + 1) := by
      funext k
      unfold put2
      by_cases k1 : k = i
      · subst k1; rw [if_pos rfl]; unfold stg; rw [if_pos (by (with_reducible exact Nat.lt_succ_self _))]; rfl
      · by_cases k2 : k = j
        · subst k2; rw [if_neg k1, if_pos rfl]; unfold stg; rw [if_neg (by (with_reducible exact Nat.not_lt_of_le (by assumption))), if_neg (by omega), if_pos rfl]; rfl
        · rw [if_neg k1, if_neg k2]
          unfold stg
          by_cases k3 : k < i
          · rw [if_pos k3, if_pos (by (with_reducible exact Nat.lt_succ_of_lt (by assumption)))]
          · rw [if_neg k3, if_neg k2, if_neg (show ¬ k < i + 1 by omega), if_neg k2]
    rwa [e3] at h
theorem Eqv.sign {n j : Nat} {e : Nat → Int} (hj : j < n) : Eqv n (diagF e) (diagF fun k => if k = j then - e k else e k) := by
  refine (Eqv.negR hj).trans (Eqv.congr fun x y hx hy => ?_)
  unfold Mine.negR setF diagF
  by_cases h : x = j
  · subst h
    by_cases h2 : x = y
    · subst h2; simp
    · simp [h2]
  · simp [h]
theorem ins_eqv {n j : Nat} {e t : Nat → Int} {x : Int} (hj : j < n) (h0 : e j = 0) : Eqv n (diagF fun k => if k < j then e k else if k = j then x else t k) (diagF fun k => if k < j + 1 then ins e x k else t k) := by
  have h := stg_eqv (e := e) (t := t) (x := x) hj j (Nat.le_refl _)
  have e0 : stg e t x j 0 = fun k => if k < j then e k else if k = j then x else t k := by funext k; unfold stg; simp [xs]
  rw [e0] at h
  refine h.trans ?_
  have ij : ins e x j = ((xs e x j).natAbs : Nat) := by unfold ins; rw [h0]; simp
  rcases Int.le_total 0 (xs e x j) with hs | hs
  · refine Eqv.congr fun a b ha hb => ?_
    unfold diagF stg
    by_cases hab : a = b
    · subst hab
      rw [if_pos rfl, if_pos rfl]
      by_cases k1 : a < j
      · simp [k1, show a < j + 1 by (with_reducible exact Nat.lt_succ_of_lt (by assumption))]
      · by_cases k2 : a = j
        · subst k2; simp [ij]; omega
        · simp [k1, k2, show ¬ a < j + 1 by omega]
    · simp [hab]
  · refine (Eqv.sign hj).trans (Eqv.congr fun a b ha hb => ?_)
    unfold diagF stg
    by_cases hab : a = b
    · subst hab
      rw [if_pos rfl, if_pos rfl]
      by_cases k1 : a < j
      · simp [k1, show a < j + 1 by (with_reducible exact Nat.lt_succ_of_lt (by assumption)), show a ≠ j by (with_reducible exact Nat.ne_of_lt (by assumption))]
      · by_cases k2 : a = j
        · subst k2; simp [ij]; omega
        · simp [k1, k2, show ¬ a < j + 1 by omega]
    · simp [hab]
theorem left_eqv {n : Nat} {left : Nat → Int} : ∀ (j : Nat), j ≤ n → ∀ t : Nat → Int, Eqv n (diagF fun k => if k < j then left k else t k) (diagF fun k => if k < j then chainOf left j k else t k)
  | 0, _, t => by
    refine Eqv.congr fun a b ha hb => ?_
    unfold diagF; simp
  | j + 1, hj, t => by
    have ih := left_eqv (n := n) (left := left) j (by (with_reducible exact Nat.le_trans (Nat.le_add_right _ _) (by assumption))) (fun k => if k = j then left j else t k)
    have h2 := ins_eqv (n := n) (j := j) (e := chainOf left j) (t := t) (x := left j) (by (with_reducible exact Nat.lt_of_succ_le (by assumption))) (chainOf_zero j j (Nat.le_refl _))
    have e1 : (fun k => if k < j then left k else if k = j then left j else t k) = fun k => if k < j + 1 then left k else t k := by
      funext k
      by_cases k1 : k < j
      · rw [if_pos k1, if_pos (by (with_reducible exact Nat.lt_succ_of_lt (by assumption)))]
      · by_cases k2 : k = j
        · subst k2; rw [if_neg k1, if_pos rfl, if_pos (by (with_reducible exact Nat.lt_succ_self _))]
        · rw [if_neg k1, if_neg k2, if_neg (by omega)]
    rw [e1] at ih
    exact ih.trans h2
/-- the diagonal of the numbers left has the class of their chain -/
theorem left_chain {n : Nat} {left : Nat → Int} : Eqv n (diagF left) (diagF (chainOf left n)) := by
  refine Eqv.trans (Eqv.congr fun a b ha hb => ?_) ((left_eqv (n := n) (left := left) n (Nat.le_refl _) fun _ => 0).trans (Eqv.congr fun a b ha hb => ?_))
  · unfold diagF; simp [ha]
  · unfold diagF; simp [ha]
end Mine
end
-- Sm12
section
set_option Elab.async false
set_option linter.unusedVariables false
namespace Mine
section
variable {A : Nat → Nat → Int} {d : Nat → Int} {n : Nat}
noncomputable def clp (A : Nat → Nat → Int) (d : Nat → Int) (n p : Nat) : Nat → Nat → Int := fun x y => if x < p ∨ y < p then diagF d x y else Sg A d n p x y
theorem ada_eqv (A1 : ∀ x, x < n → A x x = 1) (A0 : ∀ x m, x < n → x < m → A x m = 0) : ∀ p, p ≤ n → Eqv n (clp A d n 0) (clp A d n p)
  | 0, _ => Eqv.refl
  | p + 1, hp => by
    refine (ada_eqv A1 A0 p (by (with_reducible exact Nat.le_trans (Nat.le_add_right _ _) (by assumption)))).trans ?_
    have hpn : p < n := by (with_reducible exact Nat.lt_of_succ_le (by assumption))
    refine Eqv.trans (M' := fun x y => clp A d n p x y + (if p < x then - A x p else 0) * clp A d n p p y) (Eqv.addRow (p := p) (c := fun x => if p < x then - A x p else 0) hpn (by simp) fun x y hx hy => rfl)
      (Eqv.addCol (p := p) (c := fun y => if p < y then - A y p else 0) hpn (by simp) fun x y hx hy => ?_)
    have row : ∀ y, p ≤ y → clp A d n p p y = d p * A y p := fun y h => by unfold clp; rw [if_neg fun z => z.elim (Nat.lt_irrefl _) (Nat.not_lt.2 h), Sg_row hpn A1 A0]
    have col : ∀ x, p ≤ x → clp A d n p x p = A x p * d p := fun x h => by unfold clp; rw [if_neg fun z => z.elim (Nat.not_lt.2 h) (Nat.lt_irrefl _), Sg_col hpn A1 A0]
    have row0 : ∀ y, y < p → clp A d n p p y = 0 := fun y h => by unfold clp; rw [if_pos (.inr h)]; unfold diagF; rw [if_neg (by (with_reducible exact Nat.ne_of_gt (by assumption)))]
    have col0 : ∀ x, x < p → clp A d n p x p = 0 := fun x h => by unfold clp; rw [if_pos (.inl h)]; unfold diagF; rw [if_neg (by (with_reducible exact Nat.ne_of_lt (by assumption)))]
    have app := A1 p hpn
    show clp A d n (p + 1) x y = clp A d n p x y + (if p < x then - A x p else 0) * clp A d n p p y + (if p < y then - A y p else 0) * (clp A d n p x p + (if p < x then - A x p else 0) * clp A d n p p p)
    by_cases hy1 : y < p
    · rw [row0 y hy1, if_neg (Nat.lt_asymm hy1)]
      unfold clp; rw [if_pos (.inr (by (with_reducible exact Nat.lt_succ_of_lt (by assumption)))), if_pos (.inr hy1)]; simp
    · by_cases hx1 : x < p
      · rw [col0 x hx1, if_neg (Nat.lt_asymm hx1)]
        unfold clp; rw [if_pos (.inl (by (with_reducible exact Nat.lt_succ_of_lt (by assumption)))), if_pos (.inl hx1)]; simp
      · rw [row y (by (with_reducible exact Nat.le_of_not_lt (by assumption))), col x (by (with_reducible exact Nat.le_of_not_lt (by assumption))), row p (Nat.le_refl p), app]
        by_cases hx2 : x = p
        · subst hx2
          rw [row y (by (with_reducible exact Nat.le_of_not_lt (by assumption))), app]
          unfold clp; rw [if_pos (.inl (by (with_reducible exact Nat.lt_succ_self _)))]
          by_cases hy2 : y = x
          · subst hy2; simp [diagF, app]
          · rw [if_pos (Nat.lt_of_le_of_ne (Nat.le_of_not_lt hy1) (Ne.symm hy2))]; simp [diagF, Ne.symm hy2]; grind
        · by_cases hy2 : y = p
          · subst hy2
            rw [col x (by (with_reducible exact Nat.le_of_not_lt (by assumption))), app]
            unfold clp; rw [if_pos (.inr (by (with_reducible exact Nat.lt_succ_self _))), if_pos (Nat.lt_of_le_of_ne (Nat.le_of_not_lt hx1) (Ne.symm hx2))]; simp [diagF, hx2]; grind
          · rw [if_pos (Nat.lt_of_le_of_ne (Nat.le_of_not_lt hx1) (Ne.symm hx2)), if_pos (Nat.lt_of_le_of_ne (Nat.le_of_not_lt hy1) (Ne.symm hy2))]
            unfold clp
            rw [if_neg (by omega), if_neg fun z => z.elim hx1 hy1, Sg_step hpn]
            grind
theorem ada_diag (A1 : ∀ x, x < n → A x x = 1) (A0 : ∀ x m, x < n → x < m → A x m = 0) : Eqv n (Sg A d n 0) (diagF d) := by
  refine Eqv.trans (Eqv.congr fun x y hx hy => ?_) ((ada_eqv (d := d) A1 A0 n (Nat.le_refl _)).trans (Eqv.congr fun x y hx hy => ?_))
  · unfold clp; rw [if_neg fun z => z.elim (Nat.not_lt_zero _) (Nat.not_lt_zero _)]
  · unfold clp; rw [if_pos (.inl hx)]
end
/-- what a run from a table A D A^T gives: the products of the chain -/
theorem run_comm {n K : Nat} {A : Nat → Nat → Int} {left : Nat → Int} {S R : Nat → Nat → Int} (A1 : ∀ x, x < n → A x x = 1) (A0 : ∀ x m, x < n → x < m → A x m = 0)
    (hS : ∀ x y, x < n → y < n → S x y = Sg A left n 0 x y) (r : Run n R K S 0) : ∀ k, k < n → prodTo (fun i => R i i) (k + 1) = comm left n (k + 1) := by
  have P := r.pre ⟨fun x y hx hy ne o => by omega, fun i h => by (with_reducible exact absurd (by assumption) (Nat.not_lt_zero _)), fun i x y h => by (with_reducible exact absurd (by assumption) (Nat.not_lt_zero _))⟩ (Nat.zero_le _)
  have hR : Eqv n R (diagF fun i => R i i) := Eqv.congr fun x y hx hy => by
    unfold diagF
    by_cases h : x = y
    · subst h; simp
    · rw [if_neg h, P.z x y hx hy h (.inl hx)]
  have E : Eqv n (diagF fun i => R i i) (diagF (chainOf left n)) :=
    ((hR.symm.trans r.eqv.symm).trans (Eqv.congr hS)).trans ((ada_diag A1 A0).trans left_chain)
  have C := chainOf_chain (n := n) (left := left) n
  have U := chain_unique E (fun i j hij hj => P.dv i j j (by (with_reducible exact Nat.lt_of_le_of_lt (by assumption) (by assumption))) hij hij hj hj) C.dv
  have eq : ∀ k, k < n → R k k = chainOf left n k := fun k hk => by
    have h := Int.natAbs_eq_of_dvd_dvd (U k hk).1 (U k hk).2
    have h1 := P.nn k hk
    have h2 := C.nn k hk
    omega
  intro k hk
  rw [comm_eq (n := n) n (k + 1) hk]
  have : ∀ j, j ≤ n → prodTo (fun i => R i i) j = prodTo (chainOf left n) j := by
    intro j
    induction j with
    | zero => intro _; rfl
    | succ j ih => intro hj; show prodTo _ j * R j j = prodTo _ j * _; rw [ih (by (with_reducible exact Nat.le_trans (Nat.le_add_right _ _) (by assumption))), eq j (by (with_reducible exact Nat.lt_of_succ_le (by assumption)))]
  exact this (k + 1) hk
end Mine
end
-- Lots1
section
set_option Elab.async false
set_option linter.unusedVariables false
namespace Mine
/-! ## bounds -/
theorem natAbs_mul_le {a b : Int} {m k : Nat} (h1 : a.natAbs ≤ m) (h2 : b.natAbs ≤ k) : (a * b).natAbs ≤ m * k := by
  rw [Int.natAbs_mul]; exact Nat.mul_le_mul h1 h2
theorem prodTo_le {d : Nat → Int} {m n : Nat} (h : ∀ i, i < n → (d i).natAbs ≤ m) : ∀ k, k ≤ n → (prodTo d k).natAbs ≤ m ^ k
  | 0, _ => by show (1 : Int).natAbs ≤ m ^ 0; simp
  | k + 1, hk => by rw [Nat.pow_succ]; exact natAbs_mul_le (prodTo_le h k (by (with_reducible exact Nat.le_trans (Nat.le_add_right _ _) (by assumption)))) (h k (by (with_reducible exact Nat.lt_of_succ_le (by assumption))))
theorem sumFrom_le {f : Nat → Int} {m : Nat} : ∀ c p, (∀ i, p ≤ i → i < p + c → (f i).natAbs ≤ m) → (sumFrom f p c).natAbs ≤ c * m
  | 0, _, _ => by simp [sumFrom]
  | c + 1, p, h => by
    have h1 := h p (Nat.le_refl _) (by omega)
    have h2 := sumFrom_le c (p + 1) fun i a b => h i (by (with_reducible exact Nat.le_trans (Nat.le_add_right _ _) (by assumption))) (by omega)
    show (f p + sumFrom f (p + 1) c).natAbs ≤ _
    have := Int.natAbs_add_le (f p) (sumFrom f (p + 1) c)
    rw [Nat.succ_mul]; omega
theorem gcd_le {u v : Int} {m : Nat} (h1 : u.natAbs ≤ m) (h2 : v.natAbs ≤ m) : Int.gcd u v ≤ m := by
  by_cases hu : u = 0
  · subst hu; simpa using h2
  · exact Nat.le_trans (Nat.le_of_dvd (Int.natAbs_pos.mpr hu) (Int.gcd_dvd_natAbs_left ..)) h1
theorem comm_le {left : Nat → Int} {n m : Nat} (hm : 1 ≤ m) (h : ∀ i, i < n → (left i).natAbs ≤ m) : ∀ j a, j ≤ n → (comm left j a).natAbs ≤ m ^ a
  | 0, a, _ => by
    show (if a = 0 then (1 : Int) else 0).natAbs ≤ m ^ a
    by_cases h : a = 0
    · subst h; simp
    · simp [h]
  | j + 1, 0, _ => by show (1 : Int).natAbs ≤ m ^ 0; simp
  | j + 1, a + 1, hj => by
    show ((Int.gcd (comm left j (a + 1)) (comm left j a * left j) : Nat) : Int).natAbs ≤ m ^ (a + 1)
    rw [Int.natAbs_natCast]
    exact gcd_le (comm_le hm h j (a + 1) (by (with_reducible exact Nat.le_trans (Nat.le_add_right _ _) (by assumption)))) (by rw [Nat.pow_succ]; exact natAbs_mul_le (comm_le hm h j a (by (with_reducible exact Nat.le_trans (Nat.le_add_right _ _) (by assumption)))) (h j (by (with_reducible exact Nat.lt_of_succ_le (by assumption)))))
/-! ## what is left -/
theorem leftL_get {lf tv : Nat → Int} {i : Nat} : ∀ k, i < k → (leftL lf tv k).getD i 0 = (leftL lf tv (i + 1)).getD i 0
  | 0, h => by (with_reducible exact absurd (by assumption) (Nat.not_lt_zero _))
  | k + 1, h => by
    by_cases e : i = k
    · subst e; rfl
    · have hl := leftL_len (lf := lf) (tv := tv) k
      show (leftL lf tv k ++ [_]).getD i 0 = _
      rw [List.getD_eq_getElem?_getD, List.getElem?_append_left (by omega), ← List.getD_eq_getElem?_getD]
      exact leftL_get k (by omega)
noncomputable def lef (lf tv : Nat → Int) (i : Nat) : Int := (leftL lf tv (i + 1)).getD i 0
theorem lef_eq {lf tv : Nat → Int} (k : Nat) : lef lf tv k = tv k - (((List.range k).filter fun j => (lf k).fmod (lf j) == 0).map fun j => lef lf tv j).sum := by
  show (leftL lf tv k ++ [_]).getD k 0 = _
  have hl := leftL_len (lf := lf) (tv := tv) k
  rw [List.getD_eq_getElem?_getD, List.getElem?_append_right (by (with_reducible exact Nat.le_of_eq (by assumption))), hl]
  simp only [Nat.sub_self, List.getElem?_cons_zero, Option.getD_some]
  congr 2
  refine List.map_congr_left fun j hj => ?_
  have : j < k := by simpa using (List.mem_filter.mp hj).1
  exact leftL_get k this
theorem leftF_eq {lf tv : Nat → Int} {n i : Nat} (h : i < n) : leftF lf tv n i = lef lf tv i := leftL_get n h
theorem filt_sum {p : Nat → Bool} {f : Nat → Int} : ∀ k, (((List.range k).filter p).map f).sum = sumTo (fun j => if p j then f j else 0) k
  | 0 => rfl
  | k + 1 => by
    rw [List.range_succ, List.filter_append, List.map_append, List.sum_append, filt_sum k]
    show _ = sumTo _ k + _
    congr 1
    by_cases h : p k = true
    · simp [h]
    · simp [h]
theorem sumTo_le {f : Nat → Int} {m : Nat → Nat} : ∀ k, (∀ i, i < k → (f i).natAbs ≤ 3 * 2 ^ i) → (sumTo f k).natAbs + 3 ≤ 3 * 2 ^ k
  | 0, _ => by show (0 : Int).natAbs + 3 ≤ 3 * 2 ^ 0; decide
  | k + 1, h => by
    have h1 := sumTo_le (m := m) k fun i hi => h i (by (with_reducible exact Nat.lt_succ_of_lt (by assumption)))
    have h2 := h k (by (with_reducible exact Nat.lt_succ_self _))
    show (sumTo f k + f k).natAbs + 3 ≤ _
    have := Int.natAbs_add_le (sumTo f k) (f k)
    rw [Nat.pow_succ]; omega
theorem lef_le {lf tv : Nat → Int} {n : Nat} (h : ∀ i, i < n → -3 ≤ tv i ∧ tv i ≤ 3) : ∀ k, k < n → (lef lf tv k).natAbs ≤ 3 * 2 ^ k := by
  intro k
  induction k using Nat.strongRecOn with
  | ind k ih =>
    intro hk
    rw [lef_eq, filt_sum]
    have h1 := sumTo_le (m := fun _ => 0) (f := fun j => if ((lf k).fmod (lf j) == 0) = true then lef lf tv j else 0) k fun i hi => by
      have := ih i hi (by (with_reducible exact Nat.lt_trans (by assumption) (by assumption)))
      show (if ((lf k).fmod (lf i) == 0) = true then lef lf tv i else 0).natAbs ≤ _
      split
      · exact this
      · simp
    have h2 := h k hk
    omega
end Mine
end
-- En1
section
set_option Elab.async false
set_option linter.unusedVariables false
namespace Mine
namespace En
section
variable {α β γ : Type}
noncomputable def mp (f : α → β) (l : List α) : List β := List.rec [] (fun a _ ih => f a :: ih) l
noncomputable def zp (f : α → β → γ) (l : List α) : List β → List γ :=
  List.rec (fun _ => []) (fun a _ ih l' => List.rec [] (fun b bs _ => f a b :: ih bs) l') l
noncomputable def hdd (l : List Nat) : Nat := List.rec 0 (fun a _ _ => a) l
noncomputable def hdl (l : List (List Nat)) : List Nat := List.rec [] (fun a _ _ => a) l
noncomputable def tll (l : List α) : List α := List.rec [] (fun _ t _ => t) l
noncomputable def tr (X : List (List Nat)) : List (List Nat) := List.rec (mp (fun _ => []) X) (fun r _ ih => zp List.cons r ih) X
noncomputable def bif' (c : Bool) (a b : α) : α := Bool.rec b a c
end
/-- the lanes' constants: o = ones, h = 2^25 * o, f = (2^26 - 1) * o -/
structure Cn where
  o : Nat
  h : Nat
  f : Nat
section
variable (o h f : Nat)
noncomputable def sg (x : Nat) : Nat := Nat.land (Nat.shiftRight x 25) o
noncomputable def fl (s : Nat) : Nat := Nat.mul s 67108863
noncomputable def ge (x : Nat) : Nat := fl (sg o x)
noncomputable def ab2 (x nb : Nat) : Nat := Nat.add (Nat.xor x (fl nb)) nb
noncomputable def absb (x : Nat) : Nat := ab2 x (Nat.xor o (sg o x))
noncomputable def sbb (x y : Nat) : Nat := Nat.sub (Nat.add x h) y
noncomputable def key (x c : Nat) : Nat := Nat.add (Nat.mul (Nat.land (Nat.sub (absb o x) o) (Nat.mul 8191 o)) 64) (Nat.mul c o)
noncomputable def mux (m a b : Nat) : Nat := Nat.xor b (Nat.land (Nat.xor a b) m)
noncomputable def mn (a b : Nat) : Nat := mux (ge o (sbb h b a)) a b
noncomputable def mkRow (r : List Nat) (c b : Nat) : Nat := List.rec (fun _ b => b) (fun e _ ih c b => ih (Nat.succ c) (mn o h b (key o e c))) r c b
noncomputable def mkAll (X : List (List Nat)) (c b : Nat) : Nat := List.rec (fun _ b => b) (fun r _ ih c b => ih (Nat.add c 8) (mkRow o h r c b)) X c b
noncomputable def thr (i c : Nat) : Nat := ge o (Nat.sub (Nat.add i h) (Nat.mul c o))
noncomputable def eqm (i c : Nat) : Nat := Nat.xor (thr o h i c) (thr o h i (Nat.succ c))
noncomputable def dif (m a t : Nat) : Nat := Nat.land (Nat.xor a t) m
noncomputable def brRows (i : Nat) (t : List Nat) (X : List (List Nat)) (c : Nat) : List (List Nat) :=
  List.rec (fun _ => []) (fun r _ ih c => zp (fun a u => Nat.xor a (dif (eqm o h i c) a u)) r t :: ih (Nat.succ c)) X c
noncomputable def brTop (i : Nat) (t : List Nat) (X : List (List Nat)) (c : Nat) (a : List Nat) : List Nat :=
  List.rec (fun _ a => a) (fun r _ ih c a => ih (Nat.succ c) (zp Nat.xor a (zp (dif (eqm o h i c)) r t))) X c a
noncomputable def bring (i : Nat) (X : List (List Nat)) : List (List Nat) := brTop o h i (hdl X) (tll X) 1 (hdl X) :: brRows o h i (hdl X) (tll X) 1
noncomputable def ng1 (g n1 x : Nat) : Nat := Nat.add (Nat.xor x g) n1
noncomputable def neg (g : Nat) (X : List (List Nat)) : List (List Nat) := mp (mp (ng1 g (Nat.land g o))) X
/-- P: the lead row with the bias 4096; L: the lead -/
noncomputable def subm (k c w a p : Nat) : Nat := Nat.sub (Nat.add a w) (Nat.land (Nat.shiftLeft p k) c)
noncomputable def addm (k c w a p : Nat) : Nat := Nat.sub (Nat.add a (Nat.land (Nat.shiftLeft p k) c)) w
noncomputable def wk (k c : Nat) : Nat := Nat.land (Nat.mul (Nat.shiftLeft 4096 k) o) c
noncomputable def stepR (P : List Nat) (k c : Nat) (r : List Nat) : List Nat := bif' (Nat.beq c 0) r (zp (subm k c (wk o k c)) r P)
noncomputable def clrLoop (act L : Nat) (P : List Nat) (K : Nat) (r : List Nat) : List Nat :=
  Nat.rec (fun r => r) (fun k ih r => ih (stepR o P k (Nat.land act (ge o (Nat.sub (hdd r) (Nat.shiftLeft L k)))) r)) K r
noncomputable def begR (K : Nat) (P : List Nat) (c : Nat) (r : List Nat) : List Nat := bif' (Nat.beq c 0) r (zp (addm K c (wk o K c)) r P)
noncomputable def clrRow (act L K : Nat) (P : List Nat) (r : List Nat) : List Nat :=
  clrLoop o act L P K (begR o K P (Nat.land act (Nat.xor f (ge o (hdd r)))) r)
noncomputable def clrRows (act K : Nat) (t : List Nat) (X : List (List Nat)) : List (List Nat) :=
  mp (clrRow o f act (Nat.sub (hdd t) h) K (mp (fun x => Nat.sub x (Nat.mul 33550336 o)) t)) X
noncomputable def clr (act K : Nat) (X : List (List Nat)) : List (List Nat) := hdl X :: clrRows o h f act K (hdl X) (tll X)
/-- the remainders lie in [0, L) on the lanes of act -/
noncomputable def remOk (na L x : Nat) : Bool := Nat.beq (Nat.lor na (Nat.land (ge o x) (ge o (Nat.sub (Nat.add (Nat.add L h) h) (Nat.add x o))))) f
noncomputable def alls (p : Nat → Bool) (l : List Nat) : Bool := List.rec true (fun a _ ih => bif' (p a) ih false) l
noncomputable def allss (p : Nat → Bool) (X : List (List Nat)) : Bool := List.rec true (fun a _ ih => bif' (alls p a) ih false) X
noncomputable def rng (x : Nat) : Bool := Nat.beq (Nat.land (Nat.add x (Nat.mul 4096 o)) (Nat.mul 67100672 o)) h
noncomputable def heads (X : List (List Nat)) : List Nat := mp hdd X
/-- 0 where all are 0 (they are >= 0) -/
noncomputable def sumr (l : List Nat) (s : Nat) : Nat := List.rec (fun s => s) (fun a _ ih s => ih (Nat.sub (Nat.add s a) h)) l s
noncomputable def nzp (x : Nat) : Nat := ge o (Nat.sub x o)
noncomputable def undStep (L k x : Nat) : Nat := Nat.sub x (Nat.land (Nat.shiftLeft L k) (ge o (Nat.sub x (Nat.shiftLeft L k))))
noncomputable def undLoop (L K x : Nat) : Nat := Nat.rec (fun x => x) (fun k ih x => ih (undStep o L k x)) K x
noncomputable def und1 (cm ncm L KU x : Nat) : Nat := undLoop o L (Nat.succ KU) (Nat.add (mux cm x h) (Nat.shiftLeft L KU))
noncomputable def undRow (cm ncm L KU : Nat) (r : List Nat) : List Nat := mp (und1 o h cm ncm L KU) r
noncomputable def orNz (l : List Nat) : Nat := List.rec 0 (fun a _ ih => Nat.lor (nzp o a) ih) l
noncomputable def addTop (m : Nat) (a r : List Nat) : List Nat := bif' (Nat.beq m 0) a (zp (fun a e => Nat.sub (Nat.add a (Nat.land e m)) (Nat.land h m)) a r)
/-- rows: the block's rows with their remainders mod L; g: the lanes that have not found a row yet -/
noncomputable def addAll (U X : List (List Nat)) (cm : Nat) (g : Nat) (a : List Nat) (k : Nat → List Nat → Bool) : Bool :=
  List.rec (fun _ g a k => k g a) (fun u _ ih X g a k => ih (tll X) (Nat.land g (Nat.xor f (Nat.land cm (orNz o u)))) (addTop h (Nat.land g (Nat.land cm (orNz o u))) a (hdl X)) k) U X g a k
noncomputable def inner (X : List (List Nat)) : List (List Nat) := mp tll (tll X)
noncomputable def rnd7 (F Z ad cm KU : Nat) (X U : List (List Nat)) (k : Nat → List (List Nat) → Bool) : Bool :=
  bif' (allss (remOk o h f (Nat.xor f cm) (Nat.sub (hdd (hdl X)) h)) U)
    (addAll o h f U (tll X) cm f (hdl X) fun g a => bif' (alls (rng o h) a) (k (Nat.lor (Nat.lor F Z) (Nat.land ad g)) (a :: tll X)) false) false
noncomputable def rnd6 (F Z ad cm KU : Nat) (X : List (List Nat)) (k : Nat → List (List Nat) → Bool) : Bool :=
  bif' (Nat.beq cm 0) (k (Nat.lor (Nat.lor F Z) ad) X)
    (rnd7 o h f F Z ad cm KU X (mp (undRow o h cm (Nat.xor f cm) (Nat.sub (hdd (hdl X)) h) KU) (inner X)) k)
noncomputable def dn (X Y : List (List Nat)) : Nat := Nat.xor f (nzp o (sumr h (heads (tll X)) (sumr h (heads (tll Y)) h)))
noncomputable def ge2 (X : List (List Nat)) : Nat := ge o (Nat.sub (hdd (hdl X)) (Nat.mul 2 o))
noncomputable def rnd5 (F Z act KU : Nat) (X Y : List (List Nat)) (k : Nat → List (List Nat) → Bool) : Bool :=
  bif' (alls (remOk o h f (Nat.xor f act) (Nat.sub (hdd (hdl Y)) h)) (heads (tll Y)))
    (bif' (allss (rng o h) X) (rnd6 o h f F Z (Nat.land act (dn o h f X Y)) (Nat.land (Nat.land act (dn o h f X Y)) (ge2 o X)) KU X k) false) false
noncomputable def rnd4 (F Z act K KU : Nat) (X : List (List Nat)) (k : Nat → List (List Nat) → Bool) : Bool :=
  bif' (alls (remOk o h f (Nat.xor f act) (Nat.sub (hdd (hdl X)) h)) (heads (tll X)))
    (rnd5 o h f F Z act KU (tr (clr o h f act K (tr X))) (clr o h f act K (tr X)) k) false
noncomputable def rnd3 (F Z act K KU : Nat) (X : List (List Nat)) (k : Nat → List (List Nat) → Bool) : Bool :=
  rnd4 o h f F Z act K KU (clr o h f act K (neg o (Nat.land (Nat.xor f (ge o (hdd (hdl X)))) act) X)) k
noncomputable def rnd2 (F Z act p K KU : Nat) (X : List (List Nat)) (k : Nat → List (List Nat) → Bool) : Bool :=
  rnd3 o h f F Z act K KU (tr (bring o h (Nat.land p (Nat.mul 7 o)) (tr (bring o h (Nat.land (Nat.shiftRight p 3) (Nat.mul 7 o)) X)))) k
noncomputable def rnd1 (F mk Z K KU : Nat) (X : List (List Nat)) (k : Nat → List (List Nat) → Bool) : Bool :=
  rnd2 o h f F Z (Nat.xor f (Nat.lor F Z)) (Nat.land (Nat.land mk (Nat.mul 63 o)) (Nat.xor f (Nat.lor F Z))) K KU X k
noncomputable def rnd (F K KU : Nat) (X : List (List Nat)) (k : Nat → List (List Nat) → Bool) : Bool :=
  rnd1 o h f F (mkAll o h X 0 (Nat.mul 33554431 o)) (ge o (Nat.sub (Nat.add (mkAll o h X 0 (Nat.mul 33554431 o)) h) (Nat.mul 524224 o))) K KU X k
noncomputable def loopS (K KU fuel F : Nat) (X : List (List Nat)) (k : List (List Nat) → Bool) : Bool :=
  Nat.rec (fun F X => false) (fun _ ih F X => rnd o h f F K KU X fun F' X' => bif' (Nat.beq F' f) (k X') (ih F' X')) fuel F X
/-- steps: (K, KU, fuel) -/
noncomputable def steps (l : List (Nat × Nat × Nat)) (X : List (List Nat)) : Bool :=
  List.rec (fun X => true) (fun a _ ih X => Prod.rec (fun K q => Prod.rec (fun KU fuel => loopS o h f K KU fuel 0 X fun X' => ih (inner X')) q) a) l X
end
/-- a lanes, one each -/
noncomputable def on (a : Nat) : Nat := Nat.div (Nat.sub (Nat.pow 2 (Nat.mul 26 a)) 1) 67108863
/-- a blocks of c lanes, a one at the first of each -/
noncomputable def onc (a c : Nat) : Nat := Nat.div (Nat.sub (Nat.pow 2 (Nat.mul 26 (Nat.mul c a))) 1) (Nat.sub (Nat.pow 2 (Nat.mul 26 c)) 1)
noncomputable def sev (c : Nat) : Nat := Nat.add (Nat.pow 2 (Nat.mul 26 c)) (Nat.add (Nat.mul 2 (Nat.pow 2 (Nat.mul 52 c))) (Nat.add (Nat.mul 3 (Nat.pow 2 (Nat.mul 78 c))) (Nat.add (Nat.mul 4 (Nat.pow 2 (Nat.mul 104 c))) (Nat.add (Nat.mul 5 (Nat.pow 2 (Nat.mul 130 c))) (Nat.mul 6 (Nat.pow 2 (Nat.mul 156 c)))))))
/-- the digit of weight c, in 7 * c * r lanes -/
noncomputable def dig (c r : Nat) : Nat := Nat.mul (on c) (Nat.mul (sev c) (onc r (Nat.mul 7 c)))
noncomputable def ent (c r : Nat) : Nat := Nat.add (dig c r) (Nat.mul 33554429 (on (Nat.mul (Nat.mul 7 c) r)))
noncomputable def tabN (E : List Nat) (ix : List (List Nat)) : List (List Nat) := mp (mp fun k => hdd (Nat.rec E (fun _ l => tll l) k)) ix
end En
end Mine
end
-- En2
section
set_option Elab.async false
set_option linter.unusedVariables false
namespace Mine
namespace En
/-- n lanes of base b -/
noncomputable def pk (b : Nat) : Nat → (Nat → Nat) → Nat
  | 0, _ => 0
  | n + 1, f => f 0 + b * pk b n fun i => f (i + 1)
theorem pk_congr {b : Nat} : ∀ {n f g}, (∀ i, i < n → f i = g i) → pk b n f = pk b n g
  | 0, _, _, _ => rfl
  | n + 1, f, g, h => by
    show f 0 + b * _ = g 0 + b * _
    rw [h 0 (by (with_reducible exact Nat.succ_pos _)), pk_congr (n := n) fun i hi => h (i + 1) (by (with_reducible exact Nat.succ_lt_succ (by assumption)))]
theorem pk_add {b : Nat} : ∀ {n f g}, pk b n f + pk b n g = pk b n fun i => f i + g i
  | 0, _, _ => rfl
  | n + 1, f, g => by
    show f 0 + b * _ + (g 0 + b * _) = f 0 + g 0 + b * _
    rw [← pk_add (n := n), Nat.mul_add]; omega
theorem pk_mul {b c : Nat} : ∀ {n f}, pk b n f * c = pk b n fun i => f i * c
  | 0, _ => Nat.zero_mul c
  | n + 1, f => by
    show (f 0 + b * _) * c = f 0 * c + b * _
    rw [← pk_mul (n := n), Nat.add_mul, Nat.mul_assoc]
theorem pk_sub {b : Nat} {n f g} (h : ∀ i, i < n → g i ≤ f i) : pk b n f - pk b n g = pk b n fun i => f i - g i := by
  have e : (pk b n fun i => f i - g i) + pk b n g = pk b n f := by
    rw [pk_add]; exact pk_congr fun i hi => Nat.sub_add_cancel (h i hi)
  omega
theorem blk {w a c X Y : Nat} (op : Nat → Nat → Nat) (bo : Bool → Bool → Bool) (h0 : ∀ x y i, (op x y).testBit i = bo (x.testBit i) (y.testBit i)) (hop : ∀ x y, x < 2 ^ w → y < 2 ^ w → op x y < 2 ^ w)
    (ha : a < 2 ^ w) (hc : c < 2 ^ w) : op (a + 2 ^ w * X) (c + 2 ^ w * Y) = op a c + 2 ^ w * op X Y := by
  apply Nat.eq_of_testBit_eq
  intro i
  rw [h0, Nat.add_comm a, Nat.add_comm c, Nat.add_comm (op a c), Nat.testBit_two_pow_mul_add _ ha, Nat.testBit_two_pow_mul_add _ hc, Nat.testBit_two_pow_mul_add _ (hop a c ha hc)]
  by_cases hi : i < w
  · simp [hi, h0]
  · simp [hi, h0]
theorem pk_op {w : Nat} (op : Nat → Nat → Nat) (bo : Bool → Bool → Bool) (h0 : ∀ x y i, (op x y).testBit i = bo (x.testBit i) (y.testBit i)) (hop : ∀ x y, x < 2 ^ w → y < 2 ^ w → op x y < 2 ^ w) (hz : op 0 0 = 0) :
    ∀ {n f g}, (∀ i, i < n → f i < 2 ^ w) → (∀ i, i < n → g i < 2 ^ w) → op (pk (2 ^ w) n f) (pk (2 ^ w) n g) = pk (2 ^ w) n fun i => op (f i) (g i)
  | 0, _, _, _, _ => hz
  | n + 1, f, g, hf, hg => by
    show op (f 0 + _) (g 0 + _) = op (f 0) (g 0) + _
    rw [blk op bo h0 hop (hf 0 (by (with_reducible exact Nat.succ_pos _))) (hg 0 (by (with_reducible exact Nat.succ_pos _))), pk_op op bo h0 hop hz (n := n) (fun i hi => hf (i + 1) (by (with_reducible exact Nat.succ_lt_succ (by assumption)))) (fun i hi => hg (i + 1) (by (with_reducible exact Nat.succ_lt_succ (by assumption))))]
theorem pk_land {w n f g} (hf : ∀ i, i < n → f i < 2 ^ w) (hg : ∀ i, i < n → g i < 2 ^ w) : Nat.land (pk (2 ^ w) n f) (pk (2 ^ w) n g) = pk (2 ^ w) n fun i => Nat.land (f i) (g i) :=
  pk_op Nat.land and (fun x y i => Nat.testBit_and x y i) (fun x y h _ => Nat.lt_of_le_of_lt Nat.and_le_left h) rfl hf hg
theorem pk_lor {w n f g} (hf : ∀ i, i < n → f i < 2 ^ w) (hg : ∀ i, i < n → g i < 2 ^ w) : Nat.lor (pk (2 ^ w) n f) (pk (2 ^ w) n g) = pk (2 ^ w) n fun i => Nat.lor (f i) (g i) :=
  pk_op Nat.lor or (fun x y i => Nat.testBit_or x y i) (fun x y h h' => Nat.or_lt_two_pow h h') rfl hf hg
theorem pk_xor {w n f g} (hf : ∀ i, i < n → f i < 2 ^ w) (hg : ∀ i, i < n → g i < 2 ^ w) : Nat.xor (pk (2 ^ w) n f) (pk (2 ^ w) n g) = pk (2 ^ w) n fun i => Nat.xor (f i) (g i) :=
  pk_op Nat.xor xor (fun x y i => Nat.testBit_xor x y i) (fun x y h h' => Nat.xor_lt_two_pow h h') rfl hf hg
theorem pk_shr {w k m : Nat} (hk : k ≤ w) (hm : m < 2 ^ (w - k)) : ∀ {n f}, (∀ i, i < n → f i < 2 ^ w) → Nat.land (Nat.shiftRight (pk (2 ^ w) n f) k) (pk (2 ^ w) n fun _ => m) = pk (2 ^ w) n fun i => Nat.land (f i / 2 ^ k) m
  | 0, _, _ => by simp [pk]
  | n + 1, f, h => by
    have ih := pk_shr hk hm (n := n) (f := fun i => f (i + 1)) fun i hi => h (i + 1) (by (with_reducible exact Nat.succ_lt_succ (by assumption)))
    show Nat.land (Nat.shiftRight (f 0 + 2 ^ w * pk (2 ^ w) n fun i => f (i + 1)) k) (m + 2 ^ w * pk (2 ^ w) n fun _ => m) = Nat.land (f 0 / 2 ^ k) m + 2 ^ w * pk (2 ^ w) n fun i => Nat.land (f (i + 1) / 2 ^ k) m
    rw [← ih]
    generalize (pk (2 ^ w) n fun i => f (i + 1)) = X
    generalize (pk (2 ^ w) n fun _ => m) = Y
    have hf := h 0 (by (with_reducible exact Nat.succ_pos _))
    generalize f 0 = a at hf
    have hmw : m < 2 ^ w := Nat.lt_of_lt_of_le hm (Nat.pow_le_pow_right (by decide) (by (with_reducible exact Nat.sub_le _ _)))
    apply Nat.eq_of_testBit_eq
    intro i
    have h1 : ((a / 2 ^ k) &&& m) < 2 ^ w := Nat.lt_of_le_of_lt Nat.and_le_right hmw
    show ((((a + 2 ^ w * X) >>> k) &&& (m + 2 ^ w * Y))).testBit i = (((a / 2 ^ k) &&& m) + 2 ^ w * ((X >>> k) &&& Y)).testBit i
    rw [Nat.add_comm (_ &&& m), Nat.testBit_two_pow_mul_add _ h1, Nat.testBit_and, Nat.testBit_shiftRight, Nat.add_comm a, Nat.testBit_two_pow_mul_add _ hf, Nat.add_comm m, Nat.testBit_two_pow_mul_add _ hmw]
    by_cases hi : i < w
    · simp only [hi, if_true, Nat.testBit_and, Nat.testBit_div_two_pow]
      by_cases hi2 : k + i < w
      · simp only [hi2, if_true, Nat.add_comm]
      · have : m.testBit i = false := Nat.testBit_lt_two_pow (Nat.lt_of_lt_of_le hm (Nat.pow_le_pow_right (by decide) (by omega)))
        simp [this]
    · simp only [hi, if_false, Nat.testBit_and, Nat.testBit_shiftRight]
      rw [if_neg (show ¬ k + i < w by omega)]
      congr 2
      omega
theorem pk_inj {b : Nat} : ∀ {n f g}, (∀ i, i < n → f i < b) → (∀ i, i < n → g i < b) → pk b n f = pk b n g → ∀ i, i < n → f i = g i
  | 0, _, _, _, _, _ => fun i hi => by (with_reducible exact absurd (by assumption) (Nat.not_lt_zero _))
  | n + 1, f, g, hf, hg, e => by
    have e' : f 0 + b * (pk b n fun i => f (i + 1)) = g 0 + b * (pk b n fun i => g (i + 1)) := e
    have h1 := congrArg (· % b) e'
    have h2 := congrArg (· / b) e'
    have hb : 0 < b := Nat.lt_of_le_of_lt (Nat.zero_le _) (hf 0 (by (with_reducible exact Nat.succ_pos _)))
    simp only [Nat.add_mul_mod_self_left, Nat.mod_eq_of_lt (hf 0 (by (with_reducible exact Nat.succ_pos _))), Nat.mod_eq_of_lt (hg 0 (by (with_reducible exact Nat.succ_pos _)))] at h1
    simp only [Nat.add_mul_div_left _ _ hb, Nat.div_eq_of_lt (hf 0 (by (with_reducible exact Nat.succ_pos _))), Nat.div_eq_of_lt (hg 0 (by (with_reducible exact Nat.succ_pos _))), Nat.zero_add] at h2
    have ih := pk_inj (n := n) (fun i hi => hf (i + 1) (by (with_reducible exact Nat.succ_lt_succ (by assumption)))) (fun i hi => hg (i + 1) (by (with_reducible exact Nat.succ_lt_succ (by assumption)))) h2
    intro i hi
    cases i with
    | zero => exact h1
    | succ i => exact ih i (by (with_reducible exact Nat.lt_of_succ_lt_succ (by assumption)))
theorem pk_append {b : Nat} : ∀ {a c f}, pk b (a + c) f = pk b a f + b ^ a * pk b c fun i => f (a + i)
  | 0, c, f => by simp [pk]
  | a + 1, c, f => by
    rw [show a + 1 + c = (a + c) + 1 by (with_reducible exact Nat.add_right_comm _ _ _)]
    show f 0 + b * _ = f 0 + b * _ + _
    rw [pk_append (a := a), Nat.mul_add, Nat.pow_succ, ← Nat.mul_assoc, Nat.mul_comm b (b ^ a), ← Nat.add_assoc]
    have e : (fun i => f (a + i + 1)) = fun i => f (a + 1 + i) := funext fun i => by congr 1; (with_reducible exact Nat.add_right_comm _ _ _)
    rw [e]
theorem pk_blocks {b a : Nat} : ∀ {c f}, pk b (a * c) f = pk (b ^ a) c fun j => pk b a fun i => f (a * j + i)
  | 0, f => rfl
  | c + 1, f => by
    rw [show a * (c + 1) = a + a * c by rw [Nat.mul_add]; omega, pk_append, pk_blocks (c := c)]
    show _ = (pk b a fun i => f (a * 0 + i)) + b ^ a * _
    congr 1
    · simp
    · congr 1
      refine congrArg _ (funext fun j => ?_)
      refine congrArg _ (funext fun i => ?_)
      congr 1; rw [Nat.mul_add]; omega
theorem pk_ones {b : Nat} : ∀ {n}, (b - 1) * (pk b n fun _ => 1) + 1 = b ^ n ∨ b = 0
  | 0 => by simp [pk]
  | n + 1 => by
    rcases Nat.eq_zero_or_pos b with h | h
    · exact .inr h
    refine .inl ?_
    rcases pk_ones (b := b) (n := n) with ih | ih
    · show (b - 1) * (1 + b * pk b n fun _ => 1) + 1 = b ^ (n + 1)
      rw [Nat.pow_succ, ← ih, Nat.mul_add, Nat.add_mul, Nat.mul_comm b, ← Nat.mul_assoc]
      omega
    · omega
theorem pk_const {b n c : Nat} : pk b n (fun _ => c) = (pk b n fun _ => 1) * c := by rw [pk_mul]; exact pk_congr fun i _ => (Nat.one_mul c).symm
end En
end Mine
end
-- En3
section
set_option Elab.async false
set_option linter.unusedVariables false
namespace Mine
namespace En
/-- x holds v i in lane i (N lanes of 26 bits) -/
noncomputable def U (N x : Nat) (v : Nat → Int) : Prop := ∃ d, x = pk (2 ^ 26) N d ∧ ∀ i, i < N → (d i : Int) = v i ∧ d i < 67108864
/-- with the bias 2^25 -/
noncomputable def R (N x : Nat) (v : Nat → Int) : Prop := U N x fun i => v i + 33554432
noncomputable def Mk (N m : Nat) (p : Nat → Bool) : Prop := U N m fun i => if p i then 67108863 else 0
section
variable {N x y m c o h f : Nat} {v u : Nat → Int} {p q : Nat → Bool}
theorem U.congr (a : U N x v) (e : ∀ i, i < N → v i = u i) : U N x u := by
  obtain ⟨d, h, h2⟩ := a
  exact ⟨d, h, fun i hi => by have := h2 i hi; rw [← e i hi]; exact this⟩
theorem U.rng (a : U N x v) : ∀ i, i < N → 0 ≤ v i ∧ v i < 67108864 := by
  obtain ⟨d, h, h2⟩ := a
  intro i hi; have := h2 i hi; omega
theorem U.mul (a : U N x v) (c : Nat) (l : ∀ i, i < N → v i * c < 67108864) : U N (Nat.mul x c) fun i => v i * c := by
  obtain ⟨d, h, h2⟩ := a
  subst h
  refine ⟨_, pk_mul, fun i hi => ?_⟩
  have h1 := h2 i hi; have h3 := l i hi
  have : ((d i * c : Nat) : Int) = v i * c := by rw [Int.natCast_mul, h1.1]
  dsimp only at *
  omega
theorem U.shl (a : U N x v) (k : Nat) (l : ∀ i, i < N → v i * (2 ^ k : Nat) < 67108864) : U N (Nat.shiftLeft x k) fun i => v i * (2 ^ k : Nat) := by
  have e : Nat.shiftLeft x k = Nat.mul x (2 ^ k) := Nat.shiftLeft_eq x k
  rw [e]; exact a.mul _ l
theorem xor_ones {d : Nat} (h : d < 67108864) : Nat.xor d 67108863 = 67108863 - d := by
  apply Nat.eq_of_testBit_eq
  intro i
  have e : (67108863 - d) = 2 ^ 26 - (d + 1) := by omega
  rw [e, Nat.testBit_two_pow_sub_succ (by (with_reducible assumption))]
  show (d ^^^ (2 ^ 26 - 1)).testBit i = _
  rw [Nat.testBit_xor, Nat.testBit_two_pow_sub_one]
  by_cases hi : i < 26
  · simp [hi]
  · have : d.testBit i = false := Nat.testBit_lt_two_pow (Nat.lt_of_lt_of_le h (Nat.pow_le_pow_right (by decide : 2 > 0) (by (with_reducible exact Nat.le_of_not_lt (by assumption)) : 26 ≤ i)))
    simp [hi, this]
theorem and_ones {d : Nat} (h : d < 67108864) : Nat.land d 67108863 = d := by
  have : (d &&& 2 ^ 26 - 1) = d := by rw [Nat.and_two_pow_sub_one_eq_mod]; exact Nat.mod_eq_of_lt h
  exact this
theorem U.land (a : U N x v) (b : Mk N m p) : U N (Nat.land x m) fun i => if p i then v i else 0 := by
  obtain ⟨d, h, h2⟩ := a
  obtain ⟨d', h', h2'⟩ := b
  subst h h'
  refine ⟨_, pk_land (fun i hi => (h2 i hi).2) (fun i hi => (h2' i hi).2), fun i hi => ?_⟩
  have h1 := h2 i hi; have h3 := h2' i hi
  try dsimp only at *
  cases hp : p i with
  | true =>
    rw [hp] at h3
    have e : d' i = 67108863 := by simp at h3; omega
    simp only [e, and_ones h1.2, if_true]; exact h1
  | false =>
    rw [hp] at h3
    have e : d' i = 0 := by simp at h3; (with_reducible exact And.left (by assumption))
    simp only [e, show Nat.land (d i) 0 = 0 from Nat.and_zero _]; simp
theorem bdig {d : Nat} {b : Bool} (h : (d : Int) = if b = true then (67108863 : Int) else 0) : d = if b = true then 67108863 else 0 := by
  cases b <;> exact Int.ofNat.inj h
theorem bdig1 {d : Nat} {b : Bool} (h : (d : Int) = if b = true then (1 : Int) else 0) : d = if b = true then 1 else 0 := by
  cases b <;> exact Int.ofNat.inj h
theorem bxor : ∀ b c : Bool, ((Nat.xor (if b = true then 67108863 else 0) (if c = true then 67108863 else 0) : Nat) : Int) = (if xor b c = true then (67108863 : Int) else 0) ∧ Nat.xor (if b = true then 67108863 else 0) (if c = true then 67108863 else 0) < 67108864 := by decide
theorem bor : ∀ b c : Bool, ((Nat.lor (if b = true then 67108863 else 0) (if c = true then 67108863 else 0) : Nat) : Int) = (if (b || c) = true then (67108863 : Int) else 0) ∧ Nat.lor (if b = true then 67108863 else 0) (if c = true then 67108863 else 0) < 67108864 := by decide
theorem bxor1 : ∀ b c : Bool, ((Nat.xor (if b = true then 1 else 0) (if c = true then 1 else 0) : Nat) : Int) = (if xor b c = true then (1 : Int) else 0) ∧ Nat.xor (if b = true then 1 else 0) (if c = true then 1 else 0) < 67108864 := by decide
/-- the mask's other side -/
theorem Mk.xor (a : Mk N x p) (b : Mk N m q) : Mk N (Nat.xor x m) fun i => xor (p i) (q i) := by
  obtain ⟨d, h, h2⟩ := a
  obtain ⟨d', h', h2'⟩ := b
  subst h h'
  refine ⟨_, pk_xor (fun i hi => (h2 i hi).2) (fun i hi => (h2' i hi).2), fun i hi => ?_⟩
  dsimp only
  rw [bdig (h2 i hi).1, bdig (h2' i hi).1]
  exact bxor _ _
theorem Mk.and (a : Mk N x p) (b : Mk N m q) : Mk N (Nat.land x m) fun i => p i && q i :=
  (U.land a b).congr fun i _ => by dsimp only; rcases Bool.eq_false_or_eq_true (p i) with hp | hp <;> rcases Bool.eq_false_or_eq_true (q i) with hq | hq <;> simp [hp, hq]
theorem Mk.or (a : Mk N x p) (b : Mk N m q) : Mk N (Nat.lor x m) fun i => p i || q i := by
  obtain ⟨d, h, h2⟩ := a
  obtain ⟨d', h', h2'⟩ := b
  subst h h'
  refine ⟨_, pk_lor (fun i hi => (h2 i hi).2) (fun i hi => (h2' i hi).2), fun i hi => ?_⟩
  dsimp only
  rw [bdig (h2 i hi).1, bdig (h2' i hi).1]
  exact bor _ _
theorem Mk.congr (a : Mk N x p) (e : ∀ i, i < N → p i = q i) : Mk N x q := U.congr a fun i hi => by rw [e i hi]
theorem xor_xor (a b : Nat) : Nat.xor a (Nat.xor b a) = b := by
  show a ^^^ (b ^^^ a) = b
  rw [Nat.xor_comm b, ← Nat.xor_assoc, Nat.xor_self, Nat.zero_xor]
/-- x where p, else y (and the two that are not kept) -/
theorem U.swap {z : Nat} (a : U N x v) (b : U N y u) (g : Mk N m p) {w : Nat → Int} (t : U N z w) (e : ∀ i, i < N → p i = true → w i = u i) :
    U N (Nat.xor z (Nat.land (Nat.xor x y) m)) fun i => if p i then v i else w i := by
  obtain ⟨d, h, h2⟩ := a
  obtain ⟨d', h', h2'⟩ := b
  obtain ⟨d2, h3, h4⟩ := g
  obtain ⟨d3, h5, h6⟩ := t
  subst h h' h3 h5
  have l1 : ∀ i, i < N → Nat.xor (d i) (d' i) < 2 ^ 26 := fun i hi => Nat.xor_lt_two_pow (h2 i hi).2 (h2' i hi).2
  refine ⟨fun i => Nat.xor (d3 i) (Nat.land (Nat.xor (d i) (d' i)) (d2 i)), ?_, ?_⟩
  · rw [pk_xor (fun i hi => (h2 i hi).2) (fun i hi => (h2' i hi).2), pk_land l1 (fun i hi => (h4 i hi).2), pk_xor (fun i hi => (h6 i hi).2) (fun i hi => show Nat.land _ _ < _ from Nat.lt_of_le_of_lt Nat.and_le_left (l1 i hi))]
  · intro i hi
    have q1 := h2 i hi; have q2 := h2' i hi; have q3 := h4 i hi; have q4 := h6 i hi; have q5 := e i hi
    try dsimp only at *
    cases hp : p i with
    | true =>
      rw [hp] at q3
      have e2 : d2 i = 67108863 := by simp at q3; omega
      have e3 : d3 i = d' i := by have := q5 hp; omega
      simp only [e2, and_ones (l1 i hi), e3, xor_xor, if_true]; exact q1
    | false =>
      rw [hp] at q3
      have e2 : d2 i = 0 := by simp at q3; (with_reducible exact And.left (by assumption))
      simp only [e2, show ∀ a, Nat.land a 0 = 0 from fun a => Nat.and_zero _, show ∀ a, Nat.xor a 0 = a from fun a => Nat.xor_zero _]; exact q4
theorem U.mux (g : Mk N m p) (a : U N x v) (b : U N y u) : U N (mux m x y) fun i => if p i then v i else u i :=
  U.swap a b g b fun _ _ _ => rfl
structure Cs (N o h f : Nat) : Prop where
  o : U N o fun _ => 1
  h : U N h fun _ => 33554432
  f : Mk N f fun _ => true
theorem U.con {k : Nat} (a : U N o fun _ => 1) (hk : k < 67108864) : U N (Nat.mul o k) fun _ => k := (a.mul k (fun i _ => by omega)).congr fun i _ => by omega
theorem U.con' {k : Nat} (a : U N o fun _ => 1) (hk : k < 67108864) : U N (Nat.mul k o) fun _ => k := by
  have e : Nat.mul k o = Nat.mul o k := Nat.mul_comm k o
  rw [e]; exact a.con hk
theorem U.pkc {k : Nat} (a : U N x fun _ => (k : Int)) : x = pk (2 ^ 26) N fun _ => k := by
  obtain ⟨d, h, h2⟩ := a
  rw [h]; exact pk_congr fun i hi => by have := h2 i hi; dsimp only at this; omega
theorem U.shr {k : Nat} (hk : k < 26) (hm : m < 2 ^ (26 - k)) (a : U N x v) (b : U N c fun _ => (m : Int)) (l : ∀ i, i < N → (v i).toNat / 2 ^ k ≤ m) (e : ∃ j, m = 2 ^ j - 1) :
    U N (Nat.land (Nat.shiftRight x k) c) fun i => ((v i).toNat / 2 ^ k : Nat) := by
  have e1 := b.pkc
  obtain ⟨d, h, h2⟩ := a
  subst h e1
  refine ⟨_, pk_shr (by (with_reducible exact Nat.le_of_lt (by assumption))) hm fun i hi => (h2 i hi).2, fun i hi => ?_⟩
  obtain ⟨j, rfl⟩ := e
  have h1 := h2 i hi; have h3 := l i hi
  have e3 : d i = (v i).toNat := by omega
  rw [e3]
  have e2 : Nat.land ((v i).toNat / 2 ^ k) (2 ^ j - 1) = (v i).toNat / 2 ^ k := by
    show ((v i).toNat / 2 ^ k &&& 2 ^ j - 1) = _
    rw [Nat.and_two_pow_sub_one_eq_mod]
    have := Nat.two_pow_pos j
    exact Nat.mod_eq_of_lt (by omega)
  rw [e2]
  refine ⟨rfl, Nat.lt_of_le_of_lt (Nat.div_le_self _ _) (by omega)⟩
theorem U.low {j : Nat} (hj : j ≤ 26) (a : U N x v) (b : U N c fun _ => ((2 ^ j - 1 : Nat) : Int)) : U N (Nat.land x c) fun i => ((v i).toNat % 2 ^ j : Nat) := by
  have e1 := b.pkc
  obtain ⟨d, h, h2⟩ := a
  subst h e1
  have hj2 : 2 ^ j - 1 < 2 ^ 26 := by
    have := Nat.pow_le_pow_right (show 2 > 0 by decide) hj
    have := Nat.two_pow_pos j
    omega
  refine ⟨_, pk_land (fun i hi => (h2 i hi).2) (fun i hi => hj2), fun i hi => ?_⟩
  have h1 := h2 i hi
  have e2 : Nat.land (d i) (2 ^ j - 1) = d i % 2 ^ j := Nat.and_two_pow_sub_one_eq_mod _ _
  have e3 : d i = (v i).toNat := by omega
  rw [e2, e3]
  exact ⟨rfl, Nat.lt_of_le_of_lt (Nat.mod_le _ _) (by omega)⟩
theorem sg_ok (k : Cs N o h f) (a : U N x v) : U N (sg o x) fun i => if 33554432 ≤ v i then 1 else 0 := by
  have r := a.rng
  have := a.shr (k := 25) (m := 1) (by decide) (by decide) k.o (fun i hi => by have := r i hi; omega) ⟨1, rfl⟩
  refine this.congr fun i hi => ?_
  have := r i hi
  by_cases e : 33554432 ≤ v i
  · rw [if_pos e]; have : (v i).toNat / 2 ^ 25 = 1 := by omega
    rw [this]; rfl
  · rw [if_neg e]; have : (v i).toNat / 2 ^ 25 = 0 := by omega
    rw [this]; rfl
theorem fl_ok (a : U N x fun i => if p i then 1 else 0) : Mk N (fl x) p :=
  (a.mul 67108863 (fun i _ => by split <;> decide)).congr fun i _ => by cases p i <;> rfl
theorem geU (k : Cs N o h f) (a : U N x v) : Mk N (ge o x) fun i => decide (33554432 ≤ v i) :=
  fl_ok ((sg_ok k a).congr fun i _ => by simp)
theorem geR (k : Cs N o h f) (a : R N x v) : Mk N (ge o x) fun i => decide (0 ≤ v i) :=
  (geU k a).congr fun i _ => by congr 1; apply propext; omega
theorem Mk.not (k : Cs N o h f) (a : Mk N m p) : Mk N (Nat.xor f m) fun i => !p i := (Mk.xor k.f a).congr fun i _ => by simp
theorem R.congr (a : R N x v) (e : ∀ i, i < N → v i = u i) : R N x u := U.congr a fun i hi => by rw [e i hi]
theorem R.rng (a : R N x v) : ∀ i, i < N → -33554432 ≤ v i ∧ v i < 33554432 := fun i hi => by have := U.rng a i hi; omega
/-- no lid on the lanes -/
noncomputable def V (N x : Nat) (v : Nat → Int) : Prop := ∃ d, x = pk (2 ^ 26) N d ∧ ∀ i, i < N → (d i : Int) = v i
theorem U.val (a : U N x v) : V N x v := by
  obtain ⟨d, h, h2⟩ := a
  exact ⟨d, h, fun i hi => (h2 i hi).1⟩
theorem V.lid (a : V N x v) (l : ∀ i, i < N → v i < 67108864) : U N x v := by
  obtain ⟨d, h, h2⟩ := a
  exact ⟨d, h, fun i hi => ⟨h2 i hi, by have := h2 i hi; have := l i hi; omega⟩⟩
theorem V.congr (a : V N x v) (e : ∀ i, i < N → v i = u i) : V N x u := by
  obtain ⟨d, h, h2⟩ := a
  exact ⟨d, h, fun i hi => by rw [← e i hi]; exact h2 i hi⟩
theorem V.add (a : V N x v) (b : V N y u) : V N (Nat.add x y) fun i => v i + u i := by
  obtain ⟨d, h, h2⟩ := a
  obtain ⟨d', h', h2'⟩ := b
  subst h h'
  refine ⟨_, pk_add, fun i hi => ?_⟩
  have := h2 i hi; have := h2' i hi; (try dsimp only at *); omega
theorem V.sub (a : V N x v) (b : V N y u) (l : ∀ i, i < N → u i ≤ v i) : V N (Nat.sub x y) fun i => v i - u i := by
  obtain ⟨d, h, h2⟩ := a
  obtain ⟨d', h', h2'⟩ := b
  subst h h'
  refine ⟨_, pk_sub fun i hi => ?_, fun i hi => ?_⟩
  all_goals have := h2 i hi; have := h2' i hi; have := l i hi; (try dsimp only at *); omega
theorem V.mul (a : V N x v) (c : Nat) : V N (Nat.mul x c) fun i => v i * c := by
  obtain ⟨d, h, h2⟩ := a
  subst h
  refine ⟨_, pk_mul, fun i hi => ?_⟩
  rw [Int.natCast_mul, h2 i hi]
theorem R.val (a : R N x v) : V N x fun i => v i + 33554432 := U.val a
theorem V.r (a : V N x u) (e : ∀ i, i < N → u i = v i + 33554432 ∧ v i < 33554432) : R N x v :=
  (a.congr fun i hi => (e i hi).1).lid fun i hi => by have := e i hi; omega
theorem U.sbb (k : Cs N o h f) (a : U N x v) (b : U N y u) (l : ∀ i, i < N → -33554432 ≤ v i - u i ∧ v i - u i < 33554432) : R N (sbb h x y) fun i => v i - u i := by
  refine V.r ((a.val.add k.h.val).sub b.val fun i hi => ?_) fun i hi => ?_
  all_goals have := l i hi; omega
theorem U.xorF (a : U N x v) (b : Mk N m p) : V N (Nat.xor x m) fun i => if p i then 67108863 - v i else v i := by
  obtain ⟨d, h, h2⟩ := a
  obtain ⟨d', h', h2'⟩ := b
  subst h h'
  rw [pk_xor (fun i hi => (h2 i hi).2) (fun i hi => (h2' i hi).2)]
  refine ⟨_, rfl, fun i hi => ?_⟩
  have q1 := h2 i hi; have q2 := h2' i hi
  dsimp only at q2 ⊢
  cases e : p i
  · rw [e] at q2; simp at q2
    simp only [show d' i = 0 by (with_reducible exact And.left (by assumption)), show Nat.xor (d i) 0 = d i from Nat.xor_zero _]; simp; exact q1.1
  · rw [e] at q2; simp at q2
    simp only [show d' i = 67108863 by omega, xor_ones q1.2, if_true]; omega
theorem U.bitXor (a : U N x fun i => if p i then 1 else 0) (b : U N y fun i => if q i then 1 else 0) : U N (Nat.xor x y) fun i => if xor (p i) (q i) then 1 else 0 := by
  obtain ⟨d, h, h2⟩ := a
  obtain ⟨d', h', h2'⟩ := b
  subst h h'
  refine ⟨_, pk_xor (fun i hi => (h2 i hi).2) (fun i hi => (h2' i hi).2), fun i hi => ?_⟩
  dsimp only
  rw [bdig1 (h2 i hi).1, bdig1 (h2' i hi).1]
  exact bxor1 _ _
/-- |v|, with the bias -/
theorem absb_ok (k : Cs N o h f) (a : R N x v) (l : ∀ i, i < N → -33554432 < v i) : R N (absb o x) fun i => (v i).natAbs := by
  have s1 : U N (Nat.xor o (sg o x)) fun i => if decide (v i < 0) then 1 else 0 :=
    (U.bitXor (p := fun _ => true) (q := fun i => decide (33554432 ≤ v i + 33554432)) (k.o.congr fun i _ => rfl) ((sg_ok k a).congr fun i _ => by simp)).congr fun i _ => by
      by_cases e : v i < 0
      · have : ¬ (33554432 ≤ v i + 33554432) := by omega
        simp [e, this]
      · have : (33554432 ≤ v i + 33554432) := by omega
        simp [e, this]
  have t := V.add (U.xorF a (fl_ok s1)) s1.val
  refine V.r t fun i hi => ?_
  have := l i hi; have := R.rng a i hi
  by_cases e : v i < 0
  · simp only [e, if_true, decide_true]; omega
  · simp only [e, if_false, decide_false]; simp; omega
/-- the key of an entry at place c -/
noncomputable def kv (v : Int) (c : Nat) : Int := (if v = 0 then 8191 else (v.natAbs : Int) - 1) * 64 + c
theorem kv_rng {v : Int} {c : Nat} (l : -4096 ≤ v ∧ v ≤ 4096) (hc : c < 64) : 0 ≤ kv v c ∧ kv v c < 524288 ∧ (v = 0 ↔ 524224 ≤ kv v c) := by
  unfold kv; split <;> omega
theorem key_ok (k : Cs N o h f) (a : R N x v) (l : ∀ i, i < N → -4096 ≤ v i ∧ v i ≤ 4096) (hc : c < 64) : U N (key o x c) fun i => kv (v i) c := by
  have a1 := absb_ok k a fun i hi => by have := l i hi; (with_reducible exact Mine.wkl (by assumption) (by decide))
  have a2 : U N (Nat.sub (absb o x) o) fun i => ((v i).natAbs : Int) + 33554431 := (V.sub a1.val k.o.val (fun i hi => by omega)).congr (fun i hi => by omega) |>.lid fun i hi => by have := l i hi; omega
  have a3 := a2.low (j := 13) (c := Nat.mul 8191 o) (by decide) (k.o.con' (k := 8191) (by decide))
  have a4 : V N (key o x c) _ := (a3.val.mul 64).add (k.o.con' (k := c) (by (with_reducible exact Nat.lt_of_lt_of_le (by assumption) (by decide)))).val
  refine (a4.congr fun i hi => ?_).lid fun i hi => by have := kv_rng (l i hi) hc; omega
  have := l i hi
  unfold kv
  by_cases e : v i = 0
  · simp [e]
  · rw [if_neg e]; omega
theorem mn_ok (k : Cs N o h f) (a : U N x v) (b : U N y u) (l : ∀ i, i < N → v i < 33554432) (l2 : ∀ i, i < N → u i < 33554432) : U N (mn o h x y) fun i => if v i ≤ u i then v i else u i := by
  have r1 := a.rng; have r2 := b.rng
  have s := geR k (U.sbb k b a fun i hi => by have := r1 i hi; have := r2 i hi; have := l i hi; have := l2 i hi; omega)
  refine (U.mux s a b).congr fun i _ => ?_
  by_cases e : v i ≤ u i
  · rw [if_pos e, if_pos]; simp; (with_reducible assumption)
  · rw [if_neg e, if_neg]; simp; (with_reducible exact Int.lt_of_not_ge (by assumption))
theorem thr_ok (k : Cs N o h f) {I : Nat → Nat} (a : U N x fun i => I i) (l : ∀ i, i < N → I i < 64) (hc : c < 64) : Mk N (thr o h x c) fun i => decide (c ≤ I i) := by
  have s : R N (Nat.sub (Nat.add x h) (Nat.mul c o)) fun i => (I i : Int) - c :=
    V.r ((a.val.add k.h.val).sub (k.o.con' (k := c) (by (with_reducible exact Nat.lt_of_lt_of_le (by assumption) (by decide)))).val fun i hi => by omega) fun i hi => by have := l i hi; omega
  exact (geR k s).congr fun i _ => by congr 1; apply propext; omega
theorem eqm_ok (k : Cs N o h f) {I : Nat → Nat} (a : U N x fun i => I i) (l : ∀ i, i < N → I i < 64) (hc : c < 63) : Mk N (eqm o h x c) fun i => decide (I i = c) := by
  refine (Mk.xor (thr_ok k a l (by (with_reducible exact Nat.lt_succ_of_lt (by assumption)))) (thr_ok k a l (c := c + 1) (by (with_reducible exact Nat.succ_lt_succ (by assumption))))).congr fun i _ => ?_
  by_cases e : c ≤ I i <;> by_cases e2 : c + 1 ≤ I i <;> by_cases e3 : I i = c <;> simp [e, e2, e3] <;> omega
theorem ng1_ok (k : Cs N o h f) (g : Mk N m p) (a : R N x v) (l : ∀ i, i < N → -33554432 < v i) : R N (ng1 m (Nat.land m o) x) fun i => if p i then - v i else v i := by
  have n1 : U N (Nat.land m o) fun i => if p i then 1 else 0 := by
    have e : Nat.land m o = Nat.land o m := Nat.and_comm m o
    rw [e]; exact k.o.land g
  refine V.r (V.add (U.xorF a g) n1.val) fun i hi => ?_
  have := l i hi; have := R.rng a i hi
  try dsimp only
  cases e : p i
  · simp; (with_reducible exact And.right (by assumption))
  · simp; omega
end
end En
end Mine
end
-- En4
section
set_option Elab.async false
set_option linter.unusedVariables false
set_option linter.unusedSimpArgs false
namespace Mine
namespace En
section
variable {α β γ : Type}
theorem mp_len {f : α → β} : ∀ {l : List α}, (mp f l).length = l.length
  | [] => rfl
  | a :: l => congrArg (· + 1) (mp_len (l := l))
theorem mp_get {f : α → β} {d : α} {d' : β} : ∀ {l : List α} {y : Nat}, y < l.length → (mp f l).getD y d' = f (l.getD y d)
  | [], y, h => absurd h (Nat.not_lt_zero y)
  | a :: l, 0, _ => rfl
  | a :: l, y + 1, h => mp_get (l := l) (y := y) (by simpa using h)
theorem zp_len {f : α → β → γ} : ∀ {l : List α} {l' : List β}, l.length = l'.length → (zp f l l').length = l.length
  | [], _, _ => rfl
  | a :: l, [], h => by simp at h
  | a :: l, b :: l', h => congrArg (· + 1) (zp_len (l := l) (l' := l') (by simpa using h))
theorem zp_get {f : α → β → γ} {d : α} {d1 : β} {d2 : γ} : ∀ {l : List α} {l' : List β} {y : Nat}, y < l.length → y < l'.length → (zp f l l').getD y d2 = f (l.getD y d) (l'.getD y d1)
  | [], _, y, h, _ => absurd h (Nat.not_lt_zero y)
  | a :: l, [], y, _, h => absurd h (Nat.not_lt_zero y)
  | a :: l, b :: l', 0, _, _ => rfl
  | a :: l, b :: l', y + 1, h, h' => zp_get (l := l) (l' := l') (y := y) (by simpa using h) (by simpa using h')
end
noncomputable def RL (N : Nat) (l : List Nat) (n : Nat) (V : Nat → Nat → Int) : Prop := l.length = n ∧ ∀ y, y < n → R N (l.getD y 0) (V y)
noncomputable def RX (N : Nat) (X : List (List Nat)) (a m : Nat) (V : Nat → Nat → Nat → Int) : Prop := X.length = a ∧ ∀ x, x < a → RL N (X.getD x []) m (V x)
section
variable {N x y m n a c o h f i : Nat} {l l' : List Nat} {X Y : List (List Nat)} {V W : Nat → Nat → Int} {F G : Nat → Nat → Nat → Int} {p q : Nat → Bool}
theorem RL.cons (z : RL N (x :: l) n V) : ∃ k, n = k + 1 ∧ R N x (V 0) ∧ RL N l k fun y => V (y + 1) :=
  ⟨l.length, z.1.symm, z.2 0 (by have := z.1; simp at this; omega), rfl, fun y hy => z.2 (y + 1) (by have := z.1; simp at this; omega)⟩
theorem RX.cons (z : RX N (l :: X) a m F) : ∃ k, a = k + 1 ∧ RL N l m (F 0) ∧ RX N X k m fun y => F (y + 1) :=
  ⟨X.length, z.1.symm, z.2 0 (by have := z.1; simp at this; omega), rfl, fun y hy => z.2 (y + 1) (by have := z.1; simp at this; omega)⟩
theorem RL.mk (z : R N x (V 0)) (z2 : RL N l n fun y => V (y + 1)) : RL N (x :: l) (n + 1) V :=
  ⟨by simp [z2.1], fun y hy => by
    cases y with
    | zero => exact z
    | succ y => exact z2.2 y (by (with_reducible exact Nat.lt_of_succ_lt_succ (by assumption)))⟩
theorem RX.mk (z : RL N l m (F 0)) (z2 : RX N X n m fun y => F (y + 1)) : RX N (l :: X) (n + 1) m F :=
  ⟨by simp [z2.1], fun y hy => by
    cases y with
    | zero => exact z
    | succ y => exact z2.2 y (by (with_reducible exact Nat.lt_of_succ_lt_succ (by assumption)))⟩
theorem RL.congr (z : RL N l n V) (e : ∀ y i, y < n → i < N → V y i = W y i) : RL N l n W := ⟨z.1, fun y hy => (z.2 y hy).congr fun i hi => e y i hy hi⟩
theorem RX.congr (z : RX N X a m F) (e : ∀ x y i, x < a → y < m → i < N → F x y i = G x y i) : RX N X a m G := ⟨z.1, fun x hx => (z.2 x hx).congr fun y i hy hi => e x y i hx hy hi⟩
theorem RL.map {g : Nat → Nat} (z : RL N l n V) (e : ∀ x y, y < n → R N x (V y) → R N (g x) (W y)) : RL N (mp g l) n W :=
  ⟨mp_len.trans z.1, fun y hy => by rw [mp_get (d := 0) (by rw [z.1]; exact hy)]; exact e _ y hy (z.2 y hy)⟩
theorem RL.zip {g : Nat → Nat → Nat} {V2 : Nat → Nat → Int} (z : RL N l n V) (z2 : RL N l' n V2) (e : ∀ x x2 y, y < n → R N x (V y) → R N x2 (V2 y) → R N (g x x2) (W y)) : RL N (zp g l l') n W :=
  ⟨(zp_len (z.1.trans z2.1.symm)).trans z.1, fun y hy => by rw [zp_get (d := 0) (d1 := 0) (by rw [z.1]; exact hy) (by rw [z2.1]; exact hy)]; exact e _ _ y hy (z.2 y hy) (z2.2 y hy)⟩
theorem RX.map {g : List Nat → List Nat} {b : Nat} (z : RX N X a m F) (e : ∀ l x, x < a → RL N l m (F x) → RL N (g l) b (G x)) : RX N (mp g X) a b G :=
  ⟨mp_len.trans z.1, fun y hy => by rw [mp_get (d := []) (by rw [z.1]; exact hy)]; exact e _ y hy (z.2 y hy)⟩
theorem RL.hd (z : RL N l n V) (hn : 0 < n) : R N (hdd l) (V 0) := by
  cases l with
  | nil => have := z.1; simp at this; omega
  | cons x l => exact z.2 0 hn
theorem RX.hd (z : RX N X a m F) (hn : 0 < a) : RL N (hdl X) m (F 0) := by
  cases X with
  | nil => have := z.1; simp at this; omega
  | cons x l => exact z.2 0 hn
theorem RL.tl (z : RL N l (n + 1) V) : RL N (tll l) n fun y => V (y + 1) := by
  cases l with
  | nil => have := z.1; simp at this
  | cons x l => obtain ⟨k, e, _, h⟩ := z.cons; cases e; exact h
theorem RX.tl (z : RX N X (a + 1) m F) : RX N (tll X) a m fun y => F (y + 1) := by
  cases X with
  | nil => have := z.1; simp at this
  | cons x l => obtain ⟨k, e, _, h⟩ := z.cons; cases e; exact h
theorem RX.hds (z : RX N X a m F) (hm : 0 < m) : RL N (heads X) a fun x => F x 0 :=
  ⟨mp_len.trans z.1, fun y hy => by rw [show heads X = mp hdd X from rfl, mp_get (d := []) (by rw [z.1]; exact hy)]; exact (z.2 y hy).hd hm⟩
theorem tr_ok : ∀ {X : List (List Nat)} {Z : List (List Nat)} {m : Nat}, (∀ r ∈ X, r.length = m) → Z.length = m → (∀ r ∈ Z, r = []) →
    (List.rec Z (fun r _ ih => zp List.cons r ih) X : List (List Nat)).length = m ∧
    ∀ y, y < m → ((List.rec Z (fun r _ ih => zp List.cons r ih) X : List (List Nat)).getD y []).length = X.length ∧
      ∀ x, x < X.length → ((List.rec Z (fun r _ ih => zp List.cons r ih) X : List (List Nat)).getD y []).getD x 0 = (X.getD x []).getD y 0
  | [], Z, m, _, h2, h3 => ⟨h2, fun y hy => ⟨by
      have : Z.getD y [] = [] := by
        rw [List.getD_eq_getElem?_getD, List.getElem?_eq_getElem (by omega)]
        exact h3 _ (List.getElem_mem _)
      show (Z.getD y []).length = 0
      rw [this]; rfl, fun x hx => absurd hx (Nat.not_lt_zero x)⟩⟩
  | r :: X, Z, m, h1, h2, h3 => by
    have ih := tr_ok (X := X) (fun r hr => h1 r (List.mem_cons_of_mem _ hr)) h2 h3
    have hr := h1 r (List.mem_cons_self)
    refine ⟨?_, fun y hy => ?_⟩
    · show (zp List.cons r _).length = m
      rw [zp_len (by rw [hr, ih.1]), hr]
    · have e : ((List.rec Z (fun r _ ih => zp List.cons r ih) (r :: X) : List (List Nat)).getD y []) = r.getD y 0 :: ((List.rec Z (fun r _ ih => zp List.cons r ih) X : List (List Nat)).getD y []) :=
        zp_get (by rw [hr]; exact hy) (by rw [ih.1]; exact hy)
      rw [e]
      refine ⟨congrArg (· + 1) (ih.2 y hy).1, fun x hx => ?_⟩
      cases x with
      | zero => rfl
      | succ x => exact (ih.2 y hy).2 x (by simpa using hx)
theorem RX.tr (z : RX N X m m F) : RX N (tr X) m m fun x y => F y x := by
  have h1 : ∀ r ∈ X, r.length = m := by
    intro r hr
    obtain ⟨i, hi, e⟩ := List.mem_iff_getElem.1 hr
    have := (z.2 i (by rw [← z.1]; exact hi)).1
    rw [List.getD_eq_getElem?_getD, List.getElem?_eq_getElem hi] at this
    rw [← e]; exact this
  have t := tr_ok (X := X) (Z := mp (fun _ => []) X) h1 (mp_len.trans z.1) (by
    intro r hr
    obtain ⟨i, hi, e⟩ := List.mem_iff_getElem.1 hr
    have : (mp (fun _ => ([] : List Nat)) X).getD i [] = [] := mp_get (d := []) (by rw [← mp_len (f := fun _ => ([] : List Nat))]; exact hi)
    rw [List.getD_eq_getElem?_getD, List.getElem?_eq_getElem hi] at this
    rw [← e]; exact this)
  refine ⟨t.1, fun x hx => ⟨(t.2 x hx).1.trans z.1, fun y hy => ?_⟩⟩
  have := (t.2 x hx).2 y (by rw [z.1]; exact hy)
  show R N (((En.tr X).getD x []).getD y 0) (F y x)
  rw [show ((En.tr X).getD x []).getD y 0 = _ from this]
  exact (z.2 y hy).2 x hx
theorem mkRow_ok (k : Cs N o h f) : ∀ {l : List Nat} {n c b : Nat} {V : Nat → Nat → Int} {β : Nat → Int}, RL N l n V → (∀ y i, y < n → i < N → -4096 ≤ V y i ∧ V y i ≤ 4096) → c + n ≤ 64 → U N b β → (∀ i, i < N → β i < 33554432) →
    ∃ κ, U N (mkRow o h l c b) κ ∧ ∀ i, i < N → κ i < 33554432 ∧ κ i ≤ β i ∧ (∀ y, y < n → κ i ≤ kv (V y i) (c + y)) ∧ (κ i = β i ∨ ∃ y, y < n ∧ κ i = kv (V y i) (c + y))
  | [], n, c, b, V, β, z, _, _, hb, hl => ⟨β, hb, fun i hi => ⟨hl i hi, Int.le_refl _, fun y hy => by have := z.1; simp at this; omega, .inl rfl⟩⟩
  | e :: l, n, c, b, V, β, z, hV, hc, hb, hl => by
    obtain ⟨n, rfl, h0, hs⟩ := z.cons
    have hk := key_ok (c := c) k h0 (fun i hi => hV 0 i (by (with_reducible exact Nat.succ_pos _)) hi) (by omega)
    have hr : ∀ i, i < N → kv (V 0 i) c < 33554432 := fun i hi => by have := kv_rng (hV 0 i (by (with_reducible exact Nat.succ_pos _)) hi) (show c < 64 by omega); omega
    have hm := mn_ok k hb hk hl hr
    obtain ⟨κ, h1, h2⟩ := mkRow_ok k (c := c + 1) hs (fun y i hy hi => hV (y + 1) i (by (with_reducible exact Nat.succ_lt_succ (by assumption))) hi) (by omega) hm (fun i hi => by have := hl i hi; have := hr i hi; split <;> (with_reducible assumption))
    refine ⟨κ, h1, fun i hi => ?_⟩
    obtain ⟨g1, g2, g3, g4⟩ := h2 i hi
    refine ⟨g1, by split at g2 <;> omega, fun y hy => ?_, ?_⟩
    · cases y with
      | zero => show κ i ≤ kv (V 0 i) c; split at g2 <;> omega
      | succ y => have := g3 y (by (with_reducible exact Nat.lt_of_succ_lt_succ (by assumption))); rw [show c + (y + 1) = c + 1 + y by omega]; exact this
    · rcases g4 with g4 | ⟨y, hy, g4⟩
      · split at g4
        · exact .inl g4
        · exact .inr ⟨0, by (with_reducible exact Nat.succ_pos _), g4⟩
      · exact .inr ⟨y + 1, by (with_reducible exact Nat.succ_lt_succ (by assumption)), by rw [show c + (y + 1) = c + 1 + y by omega]; exact g4⟩
theorem mkAll_ok (k : Cs N o h f) (hm8 : m ≤ 8) : ∀ {X : List (List Nat)} {a c b : Nat} {F : Nat → Nat → Nat → Int} {β : Nat → Int}, RX N X a m F → (∀ x y i, x < a → y < m → i < N → -4096 ≤ F x y i ∧ F x y i ≤ 4096) → c + 8 * a ≤ 64 → U N b β → (∀ i, i < N → β i < 33554432) →
    ∃ κ, U N (mkAll o h X c b) κ ∧ ∀ i, i < N → κ i < 33554432 ∧ κ i ≤ β i ∧ (∀ x y, x < a → y < m → κ i ≤ kv (F x y i) (c + (8 * x + y))) ∧ (κ i = β i ∨ ∃ x y, x < a ∧ y < m ∧ κ i = kv (F x y i) (c + (8 * x + y)))
  | [], a, c, b, F, β, z, _, _, hb, hl => ⟨β, hb, fun i hi => ⟨hl i hi, Int.le_refl _, fun x y hx => by have := z.1; simp at this; omega, .inl rfl⟩⟩
  | e :: X, n, c, b, F, β, z, hV, hc, hb, hl => by
    obtain ⟨n, rfl, h0, hs⟩ := z.cons
    obtain ⟨κ₀, k1, k2⟩ := mkRow_ok (c := c) k h0 (fun y i hy hi => hV 0 y i (by (with_reducible exact Nat.succ_pos _)) hy hi) (by omega) hb hl
    obtain ⟨κ, h1, h2⟩ := mkAll_ok k hm8 (c := c + 8) hs (fun x y i hx hy hi => hV (x + 1) y i (by (with_reducible exact Nat.succ_lt_succ (by assumption))) hy hi) (by omega) k1 (fun i hi => (k2 i hi).1)
    refine ⟨κ, h1, fun i hi => ?_⟩
    obtain ⟨g1, g2, g3, g4⟩ := h2 i hi
    obtain ⟨f1, f2, f3, f4⟩ := k2 i hi
    refine ⟨g1, by (with_reducible exact Int.le_trans (by assumption) (by assumption)), fun x y hx hy => ?_, ?_⟩
    · cases x with
      | zero => have := f3 y hy; rw [show 8 * 0 + y = y by (with_reducible exact Nat.zero_add _)]; (with_reducible exact Int.le_trans (by assumption) (by assumption))
      | succ x => have := g3 x y (by (with_reducible exact Nat.lt_of_succ_lt_succ (by assumption))) hy; rw [show c + (8 * (x + 1) + y) = c + 8 + (8 * x + y) by omega]; exact this
    · rcases g4 with g4 | ⟨x, y, hx, hy, g4⟩
      · rcases f4 with f4 | ⟨y, hy, f4⟩
        · exact .inl (g4.trans f4)
        · exact .inr ⟨0, y, by (with_reducible exact Nat.succ_pos _), hy, by rw [show 8 * 0 + y = y by (with_reducible exact Nat.zero_add _)]; exact g4.trans f4⟩
      · exact .inr ⟨x + 1, y, by (with_reducible exact Nat.succ_lt_succ (by assumption)), hy, by rw [show c + (8 * (x + 1) + y) = c + 8 + (8 * x + y) by omega]; exact g4⟩
theorem brRows_ok (k : Cs N o h f) {I : Nat → Nat} {t : List Nat} {T : Nat → Nat → Int} (hi : U N i fun i => I i) (hI : ∀ i, i < N → I i < 64) (ht : RL N t m T) : ∀ {X : List (List Nat)} {a c : Nat} {F : Nat → Nat → Nat → Int}, RX N X a m F → c + a ≤ 63 →
    RX N (brRows o h i t X c) a m fun x y i => if I i = c + x then T y i else F x y i
  | [], a, c, F, z, _ => ⟨z.1, fun x hx => by have := z.1; simp at this; omega⟩
  | e :: X, n, c, F, z, hc => by
    obtain ⟨n, rfl, h0, hs⟩ := z.cons
    refine RX.mk (RL.zip h0 ht fun x x2 y hy a b => ?_) ((brRows_ok k hi hI ht (c := c + 1) hs (by omega)).congr fun x y i _ _ _ => by rw [show c + 1 + x = c + (x + 1) by omega])
    have := U.swap b a (eqm_ok k hi hI (c := c) (by omega)) a (fun _ _ _ => rfl)
    have e : Nat.xor x2 x = Nat.xor x x2 := Nat.xor_comm x2 x
    rw [e] at this
    exact U.congr this fun i _ => by dsimp only; by_cases e : I i = c <;> simp [e]
theorem brTop_ok (k : Cs N o h f) {I : Nat → Nat} {t : List Nat} {T : Nat → Nat → Int} (hi : U N i fun i => I i) (hI : ∀ i, i < N → I i < 64) (ht : RL N t m T) : ∀ {X : List (List Nat)} {a c : Nat} {l : List Nat} {A : Nat → Nat → Int} {F : Nat → Nat → Nat → Int}, RX N X a m F → c + a ≤ 63 →
    RL N l m A → (∀ i, i < N → c ≤ I i → ∀ y, y < m → A y i = T y i) →
    RL N (brTop o h i t X c l) m fun y i => if c ≤ I i ∧ I i < c + a then F (I i - c) y i else A y i
  | [], a, c, l, A, F, z, _, hl, _ => hl.congr fun y i hy hi => by have := z.1; simp at this; rw [if_neg (by omega)]
  | e :: X, n, c, l, A, F, z, hc, hl, hA => by
    obtain ⟨n, rfl, h0, hs⟩ := z.cons
    have hm := eqm_ok k hi hI (c := c) (by omega)
    have hz : RL N (zp Nat.xor l (zp (dif (eqm o h i c)) e t)) m fun y i => if I i = c then F 0 y i else A y i := by
      refine ⟨?_, fun y hy => ?_⟩
      · rw [zp_len, hl.1]; rw [zp_len (h0.1.trans ht.1.symm), hl.1, h0.1]
      · rw [zp_get (d := 0) (d1 := 0) (by rw [hl.1]; exact hy) (by rw [zp_len (h0.1.trans ht.1.symm), h0.1]; exact hy), zp_get (d := 0) (d1 := 0) (by rw [h0.1]; exact hy) (by rw [ht.1]; exact hy)]
        refine U.congr (U.swap (h0.2 y hy) (ht.2 y hy) hm (hl.2 y hy) fun i hi e => ?_) fun i _ => ?_
        · have e' : I i = c := by simpa using e
          rw [hA i hi (by omega) y hy]
        · by_cases e : I i = c <;> simp [e]
    refine (brTop_ok k hi hI ht (c := c + 1) hs (by omega) hz fun i hi hc y hy => ?_).congr fun y i hy hi => ?_
    · rw [if_neg (by omega)]; exact hA i hi (by (with_reducible exact Nat.le_trans (Nat.le_add_right _ _) (by assumption))) y hy
    · by_cases e1 : I i = c
      · rw [if_neg (by omega), if_pos e1, if_pos (by omega), e1, Nat.sub_self]
      · by_cases e2 : c + 1 ≤ I i ∧ I i < c + 1 + n
        · rw [if_pos e2, if_pos (by omega)]; show F (I i - (c + 1) + 1) y i = _; rw [show I i - (c + 1) + 1 = I i - c by omega]
        · rw [if_neg e2, if_neg e1, if_neg (by omega)]
theorem bring_ok (k : Cs N o h f) {I : Nat → Nat} (hm : m ≤ 8) (z : RX N X (n + 1) m F) (hn : n ≤ 7) (hi : U N i fun i => I i) (hI : ∀ i, i < N → I i < n + 1) :
    RX N (bring o h i X) (n + 1) m fun x y i => F (if x = I i then 0 else if x = 0 then I i else x) y i := by
  have hd := z.hd (by (with_reducible exact Nat.succ_pos _))
  have I64 : ∀ i, i < N → I i < 64 := fun i hi => by have := hI i hi; omega
  refine RX.mk ((brTop_ok k hi I64 hd (c := 1) z.tl (by omega) hd fun _ _ _ _ _ => rfl).congr fun y i hy hi => ?_) ((brRows_ok k hi I64 hd (c := 1) z.tl (by omega)).congr fun x y i hx hy hi => ?_)
  · have := hI i hi
    by_cases e : I i = 0
    · rw [if_neg (by omega), if_pos e.symm]
    · rw [if_pos (by omega), if_neg (by omega), if_pos rfl, show I i - 1 + 1 = I i by omega]
  · by_cases e : I i = 1 + x
    · rw [if_pos e, if_pos (by omega)]
    · rw [if_neg e, if_neg (by omega), if_neg (by (with_reducible exact Nat.succ_ne_zero _))]
theorem neg_ok (k : Cs N o h f) (g : Mk N c p) (z : RX N X a m F) (l : ∀ x y i, x < a → y < m → i < N → -33554432 < F x y i) : RX N (neg o c X) a m fun x y i => if p i then - F x y i else F x y i :=
  z.map fun r x hx hr => hr.map fun e y hy he => ng1_ok k g he fun i hi => l x y i hx hy hi
end
end En
end Mine
end
-- En5
section
set_option Elab.async false
set_option linter.unusedVariables false
set_option linter.unusedSimpArgs false
namespace Mine
namespace En
theorem mul_bd {a b A B : Int} (h1 : -A ≤ a) (h2 : a ≤ A) (h3 : 0 ≤ b) (h4 : b ≤ B) : -(A * B) ≤ a * b ∧ a * b ≤ A * B := by
  have hA : 0 ≤ A := by omega
  have q1 : a * b ≤ A * b := Int.mul_le_mul_of_nonneg_right h2 h3
  have q2 : A * b ≤ A * B := Int.mul_le_mul_of_nonneg_left h4 hA
  have q3 : -A * b ≤ a * b := Int.mul_le_mul_of_nonneg_right h1 h3
  rw [Int.neg_mul] at q3
  omega
section
variable {N x y m n a c o h f i k K : Nat} {l l' r P : List Nat} {X Y : List (List Nat)} {V W T : Nat → Nat → Int} {F G : Nat → Nat → Nat → Int} {p q act : Nat → Bool} {v u ℓ : Nat → Int}
theorem U.inj (a : U N x v) (b : U N x u) : ∀ i, i < N → v i = u i := by
  obtain ⟨d, h, h2⟩ := a
  obtain ⟨d', h', h2'⟩ := b
  intro i hi
  have e := pk_inj (fun i hi => (h2 i hi).2) (fun i hi => (h2' i hi).2) (h.symm.trans h') i hi
  have := (h2 i hi).1; have := (h2' i hi).1
  omega
theorem Mk.inj (a : Mk N x p) (b : Mk N x q) : ∀ i, i < N → p i = q i := by
  intro i hi
  have := U.inj a b i hi
  try dsimp only at this
  cases hp : p i <;> cases hq : q i <;> rw [hp, hq] at this <;> simp at this <;> rfl
theorem pk_zero {b : Nat} : ∀ {n}, pk b n (fun _ => 0) = 0
  | 0 => rfl
  | n + 1 => by show 0 + b * pk b n (fun _ => 0) = 0; rw [pk_zero]; omega
theorem Mk.none (a : Mk N 0 p) : ∀ i, i < N → p i = false := by
  have z : Mk N 0 fun _ => false := ⟨fun _ => 0, pk_zero.symm, fun i hi => by simp⟩
  exact Mk.inj a z
theorem beq_eq {a b : Nat} (h : Nat.beq a b = true) : a = b := Nat.eq_of_beq_eq_true h
/-- a row that is the lead row, with its small bias -/
noncomputable def RP (N : Nat) (l : List Nat) (n : Nat) (V : Nat → Nat → Int) : Prop := l.length = n ∧ ∀ y, y < n → U N (l.getD y 0) (fun i => V y i + 4096) ∧ ∀ i, i < N → -4096 ≤ V y i ∧ V y i ≤ 4096
theorem wk_ok (k : Cs N o h f) {j : Nat} (hj : j ≤ 11) (g : Mk N c p) : U N (wk o j c) fun i => if p i then 4096 * (2 ^ j : Nat) else 0 := by
  have e : Nat.mul (Nat.shiftLeft 4096 j) o = Nat.mul (4096 * 2 ^ j) o := by rw [show Nat.shiftLeft 4096 j = 4096 * 2 ^ j from Nat.shiftLeft_eq _ _]
  have h2 : 2 ^ j ≤ 2 ^ 11 := Nat.pow_le_pow_right (by decide) hj
  show U N (Nat.land (Nat.mul (Nat.shiftLeft 4096 j) o) c) _
  rw [e]
  exact (U.land (k.o.con' (k := 4096 * 2 ^ j) (by omega)) g).congr fun i _ => by split <;> omega
theorem shP {j : Nat} (hj : j ≤ 11) (a : U N y fun i => u i + 4096) (l2 : ∀ i, i < N → -4096 ≤ u i ∧ u i ≤ 4096) : U N (Nat.shiftLeft y j) fun i => (u i + 4096) * (2 ^ j : Nat) := by
  have h2 : 2 ^ j ≤ 2 ^ 11 := Nat.pow_le_pow_right (by decide) hj
  refine a.shl j fun i hi => ?_
  have := l2 i hi
  have hp := Int.natCast_nonneg (2 ^ j)
  have := mul_bd (A := 8192) (B := 2048) (a := u i + 4096) (b := (2 ^ j : Nat)) (by omega) (by omega) (by (with_reducible assumption)) (by omega)
  (with_reducible exact Mine.wkr (by assumption) (by decide))
theorem subm_ok (k : Cs N o h f) {j : Nat} (hj : j ≤ 11) (g : Mk N c p) (a : R N x v) (b : U N y fun i => u i + 4096) (l2 : ∀ i, i < N → -4096 ≤ u i ∧ u i ≤ 4096)
    (l : ∀ i, i < N → -33554432 ≤ v i - (if p i then u i * (2 ^ j : Nat) else 0) ∧ v i - (if p i then u i * (2 ^ j : Nat) else 0) < 33554432) :
    R N (subm j c (wk o j c) x y) fun i => v i - if p i then u i * (2 ^ j : Nat) else 0 := by
  have w := wk_ok k hj g
  have s := U.land (shP hj b l2) g
  refine V.r (V.sub (a.val.add w.val) s.val fun i hi => ?_) fun i hi => ?_
  all_goals
    have := l i hi
    try dsimp only
    cases e : p i
    · rw [e] at this; simp at this ⊢; omega
    · rw [e] at this; simp only [if_true] at this ⊢; rw [Int.add_mul]; omega
theorem addm_ok (k : Cs N o h f) {j : Nat} (hj : j ≤ 11) (g : Mk N c p) (a : R N x v) (b : U N y fun i => u i + 4096) (l2 : ∀ i, i < N → -4096 ≤ u i ∧ u i ≤ 4096)
    (l : ∀ i, i < N → -33554432 ≤ v i + (if p i then u i * (2 ^ j : Nat) else 0) ∧ v i + (if p i then u i * (2 ^ j : Nat) else 0) < 33554432) :
    R N (addm j c (wk o j c) x y) fun i => v i + if p i then u i * (2 ^ j : Nat) else 0 := by
  have w := wk_ok k hj g
  have s := U.land (shP hj b l2) g
  refine V.r (V.sub (a.val.add s.val) w.val fun i hi => ?_) fun i hi => ?_
  all_goals
    have := l i hi
    try dsimp only
    cases e : p i
    · rw [e] at this; simp at this ⊢; omega
    · rw [e] at this; simp only [if_true] at this ⊢; rw [Int.add_mul]; omega
theorem stepR_ok (k : Cs N o h f) {j : Nat} (hj : j ≤ 11) (g : Mk N c p) (z : RL N l n V) (b : RP N P n T) {D : Int} (hD : D + 4096 * (2 ^ j : Nat) ≤ 33554431)
    (l1 : ∀ y i, y < n → i < N → -D ≤ V y i ∧ V y i ≤ D) : RL N (stepR o P j c l) n (fun y i => V y i - (if p i then ((2 ^ j : Nat) : Int) else 0) * T y i) ∧
      ∀ y i, y < n → i < N → -(D + 4096 * (2 ^ j : Nat)) ≤ V y i - (if p i then ((2 ^ j : Nat) : Int) else 0) * T y i ∧ V y i - (if p i then ((2 ^ j : Nat) : Int) else 0) * T y i ≤ D + 4096 * (2 ^ j : Nat) := by
  have bd : ∀ y i, y < n → i < N → -(4096 * (2 ^ j : Nat) : Int) ≤ T y i * (2 ^ j : Nat) ∧ T y i * (2 ^ j : Nat) ≤ 4096 * (2 ^ j : Nat) := fun y i hy hi => by
    have := (b.2 y hy).2 i hi
    exact mul_bd this.1 this.2 (Int.natCast_nonneg _) (Int.le_refl _)
  have e1 : ∀ y i, (if p i then ((2 ^ j : Nat) : Int) else 0) * T y i = if p i then T y i * (2 ^ j : Nat) else 0 := fun y i => by
    cases p i
    · simp
    · simp only [if_true]; rw [Int.mul_comm]
  have hp := Int.natCast_nonneg (2 ^ j)
  have e2 : ∀ y i, y < n → i < N → -(4096 * (2 ^ j : Nat) : Int) ≤ (if p i then T y i * (2 ^ j : Nat) else 0) ∧ (if p i then T y i * (2 ^ j : Nat) else 0) ≤ (4096 * (2 ^ j : Nat) : Int) := fun y i hy hi => by
    have := bd y i hy hi
    split <;> omega
  have main : ∀ y, y < n → R N (subm j c (wk o j c) (l.getD y 0) (P.getD y 0)) fun i => V y i - (if p i then ((2 ^ j : Nat) : Int) else 0) * T y i := fun y hy =>
    (subm_ok k hj g (z.2 y hy) (b.2 y hy).1 (b.2 y hy).2 fun i hi => by
      have := e2 y i hy hi; have := l1 y i hy hi; omega).congr fun i _ => by rw [e1]
  refine ⟨?_, fun y i hy hi => by have := e2 y i hy hi; have := l1 y i hy hi; rw [e1]; omega⟩
  unfold stepR
  cases e : Nat.beq c 0 with
  | true =>
    have h0 := beq_eq e
    subst h0
    exact z.congr fun y i hy hi => by have := g.none i hi; simp [this]
  | false =>
    refine ⟨(zp_len (z.1.trans b.1.symm)).trans z.1, fun y hy => ?_⟩
    show R N ((zp (subm j c (wk o j c)) l P).getD y 0) _
    rw [zp_get (d := 0) (d1 := 0) (by rw [z.1]; exact hy) (by rw [b.1]; exact hy)]
    exact main y hy
theorem begR_ok (k : Cs N o h f) {j : Nat} (hj : j ≤ 11) (g : Mk N c p) (z : RL N l n V) (b : RP N P n T) {D : Int} (hD : D + 4096 * (2 ^ j : Nat) ≤ 33554431)
    (l1 : ∀ y i, y < n → i < N → -D ≤ V y i ∧ V y i ≤ D) : RL N (begR o j P c l) n (fun y i => V y i + (if p i then ((2 ^ j : Nat) : Int) else 0) * T y i) ∧
      ∀ y i, y < n → i < N → -(D + 4096 * (2 ^ j : Nat)) ≤ V y i + (if p i then ((2 ^ j : Nat) : Int) else 0) * T y i ∧ V y i + (if p i then ((2 ^ j : Nat) : Int) else 0) * T y i ≤ D + 4096 * (2 ^ j : Nat) := by
  have bd : ∀ y i, y < n → i < N → -(4096 * (2 ^ j : Nat) : Int) ≤ T y i * (2 ^ j : Nat) ∧ T y i * (2 ^ j : Nat) ≤ 4096 * (2 ^ j : Nat) := fun y i hy hi => by
    have := (b.2 y hy).2 i hi
    exact mul_bd this.1 this.2 (Int.natCast_nonneg _) (Int.le_refl _)
  have e1 : ∀ y i, (if p i then ((2 ^ j : Nat) : Int) else 0) * T y i = if p i then T y i * (2 ^ j : Nat) else 0 := fun y i => by
    cases p i
    · simp
    · simp only [if_true]; rw [Int.mul_comm]
  have hp := Int.natCast_nonneg (2 ^ j)
  have e2 : ∀ y i, y < n → i < N → -(4096 * (2 ^ j : Nat) : Int) ≤ (if p i then T y i * (2 ^ j : Nat) else 0) ∧ (if p i then T y i * (2 ^ j : Nat) else 0) ≤ (4096 * (2 ^ j : Nat) : Int) := fun y i hy hi => by
    have := bd y i hy hi
    split <;> omega
  have main : ∀ y, y < n → R N (addm j c (wk o j c) (l.getD y 0) (P.getD y 0)) fun i => V y i + (if p i then ((2 ^ j : Nat) : Int) else 0) * T y i := fun y hy =>
    (addm_ok k hj g (z.2 y hy) (b.2 y hy).1 (b.2 y hy).2 fun i hi => by
      have := e2 y i hy hi; have := l1 y i hy hi; omega).congr fun i _ => by rw [e1]
  refine ⟨?_, fun y i hy hi => by have := e2 y i hy hi; have := l1 y i hy hi; rw [e1]; omega⟩
  unfold begR
  cases e : Nat.beq c 0 with
  | true =>
    have h0 := beq_eq e
    subst h0
    exact z.congr fun y i hy hi => by have := g.none i hi; simp [this]
  | false =>
    refine ⟨(zp_len (z.1.trans b.1.symm)).trans z.1, fun y hy => ?_⟩
    show R N ((zp (addm j c (wk o j c)) l P).getD y 0) _
    rw [zp_get (d := 0) (d1 := 0) (by rw [z.1]; exact hy) (by rw [b.1]; exact hy)]
    exact main y hy
theorem shL {j L : Nat} (hj : j ≤ 12) (a : U N L ℓ) (l2 : ∀ i, i < N → ℓ i ≤ 4096) : U N (Nat.shiftLeft L j) (fun i => ℓ i * (2 ^ j : Nat)) ∧ ∀ i, i < N → 0 ≤ ℓ i * (2 ^ j : Nat) ∧ ℓ i * (2 ^ j : Nat) ≤ 4096 * (2 ^ j : Nat) := by
  have h2 : 2 ^ j ≤ 2 ^ 12 := Nat.pow_le_pow_right (by decide) hj
  have hp := Int.natCast_nonneg (2 ^ j)
  have bd : ∀ i, i < N → 0 ≤ ℓ i * (2 ^ j : Nat) ∧ ℓ i * (2 ^ j : Nat) ≤ 4096 * (2 ^ j : Nat) := fun i hi => by
    have := a.rng i hi; have := l2 i hi
    exact ⟨Int.mul_nonneg (by (with_reducible exact And.left (by assumption))) (by (with_reducible assumption)), Int.mul_le_mul_of_nonneg_right (by (with_reducible assumption)) (by (with_reducible assumption))⟩
  exact ⟨a.shl j fun i hi => by have := bd i hi; omega, bd⟩
/-- the bit: v >= L * 2^j -/
theorem cmpL (k : Cs N o h f) {j L : Nat} (hj : j ≤ 12) (a : U N L ℓ) (l2 : ∀ i, i < N → ℓ i ≤ 4096) (b : R N x v) (l : ∀ i, i < N → 4096 * ((2 ^ j : Nat) : Int) - 33554432 ≤ v i) :
    Mk N (ge o (Nat.sub x (Nat.shiftLeft L j))) fun i => decide (0 ≤ v i - ℓ i * (2 ^ j : Nat)) := by
  obtain ⟨s, bd⟩ := shL hj a l2
  have h2 : 2 ^ j ≤ 2 ^ 12 := Nat.pow_le_pow_right (by decide) hj
  refine geR k (V.r (V.sub b.val s.val fun i hi => ?_) fun i hi => ?_)
  all_goals have := l i hi; have := bd i hi; have := R.rng b i hi; omega
theorem clrLoop_ok (k : Cs N o h f) {ac L : Nat} (hac : Mk N ac act) (hL : U N L ℓ) (l2 : ∀ i, i < N → ℓ i ≤ 4096) (b : RP N P n T) (hn : 0 < n) : ∀ {K : Nat} {r : List Nat} {V : Nat → Nat → Int} {D : Int}, K ≤ 11 → 0 ≤ D → D + 4096 * (2 ^ K : Nat) ≤ 16781312 →
    RL N r n V → (∀ y i, y < n → i < N → -D ≤ V y i ∧ V y i ≤ D) →
    ∃ q : Nat → Int, RL N (clrLoop o ac L P K r) n (fun y i => V y i - q i * T y i) ∧ (∀ i, i < N → act i = false → q i = 0) ∧
      ∀ y i, y < n → i < N → -(D + 4096 * (2 ^ K : Nat)) ≤ V y i - q i * T y i ∧ V y i - q i * T y i ≤ D + 4096 * (2 ^ K : Nat)
  | 0, r, V, D, _, h0, hD, z, l1 => ⟨fun _ => 0, z.congr fun y i _ _ => by simp, fun _ _ _ => rfl, fun y i hy hi => by have := l1 y i hy hi; simp; omega⟩
  | K + 1, r, V, D, hK, h0, hD, z, l1 => by
    have e2 : (2 ^ (K + 1) : Nat) = 2 ^ K + 2 ^ K := by rw [Nat.pow_succ]; omega
    rw [e2] at hD ⊢
    have hp := Int.natCast_nonneg (2 ^ K)
    have h2 : 2 ^ K ≤ 2 ^ 10 := Nat.pow_le_pow_right (by decide) (by (with_reducible exact Nat.le_of_succ_le_succ (by assumption)))
    have hc := cmpL k (j := K) (by omega) hL l2 (z.hd hn) fun i hi => by have := l1 0 i hn hi; omega
    have hm := Mk.and hac hc
    obtain ⟨s1, s2⟩ := stepR_ok k (j := K) (by (with_reducible exact Nat.le_trans (Nat.le_add_right _ _) (by assumption))) hm z b (D := D) (by omega) l1
    obtain ⟨q, t1, t2, t3⟩ := clrLoop_ok k hac hL l2 b hn (K := K) (D := D + 4096 * (2 ^ K : Nat)) (by (with_reducible exact Nat.le_trans (Nat.le_add_right _ _) (by assumption))) (by omega) (by omega) s1 s2
    have e : ∀ y i, V y i - (if (act i && decide (0 ≤ V 0 i - ℓ i * (2 ^ K : Nat))) = true then ((2 ^ K : Nat) : Int) else 0) * T y i - q i * T y i =
        V y i - ((if (act i && decide (0 ≤ V 0 i - ℓ i * (2 ^ K : Nat))) = true then ((2 ^ K : Nat) : Int) else 0) + q i) * T y i := fun y i => by rw [Int.add_mul]; omega
    refine ⟨fun i => (if (act i && decide (0 ≤ V 0 i - ℓ i * (2 ^ K : Nat))) = true then ((2 ^ K : Nat) : Int) else 0) + q i, ?_, ?_, ?_⟩
    · exact t1.congr fun y i _ _ => e y i
    · intro i hi ha
      simp [ha, t2 i hi ha]
    · intro y i hy hi
      have := t3 y i hy hi
      rw [e] at this
      dsimp only
      omega
theorem clrRow_ok (k : Cs N o h f) {ac L K : Nat} (hac : Mk N ac act) (hL : U N L ℓ) (l2 : ∀ i, i < N → ℓ i ≤ 4096) (b : RP N P n T) (hn : 0 < n) {r : List Nat} {V : Nat → Nat → Int} {D : Int} (hK : K ≤ 10) (h0 : 0 ≤ D) (hD : D + 4096 * (2 ^ (K + 1) : Nat) ≤ 16781312)
    (z : RL N r n V) (l1 : ∀ y i, y < n → i < N → -D ≤ V y i ∧ V y i ≤ D) :
    ∃ q : Nat → Int, RL N (clrRow o f ac L K P r) n (fun y i => V y i - q i * T y i) ∧ (∀ i, i < N → act i = false → q i = 0) ∧
      ∀ y i, y < n → i < N → -(D + 4096 * (2 ^ (K + 1) : Nat)) ≤ V y i - q i * T y i ∧ V y i - q i * T y i ≤ D + 4096 * (2 ^ (K + 1) : Nat) := by
  have e2 : (2 ^ (K + 1) : Nat) = 2 ^ K + 2 ^ K := by rw [Nat.pow_succ]; omega
  rw [e2] at hD ⊢
  have hp := Int.natCast_nonneg (2 ^ K)
  have hc := Mk.and hac (Mk.not k (geR k (z.hd hn)))
  obtain ⟨s1, s2⟩ := begR_ok k (j := K) (by (with_reducible exact Nat.le_trans (by assumption) (by decide))) hc z b (D := D) (by omega) l1
  obtain ⟨q, t1, t2, t3⟩ := clrLoop_ok k hac hL l2 b hn (K := K) (D := D + 4096 * (2 ^ K : Nat)) (by (with_reducible exact Nat.le_trans (by assumption) (by decide))) (by omega) (by omega) s1 s2
  have e : ∀ y i, V y i + (if (act i && !decide (0 ≤ V 0 i)) = true then ((2 ^ K : Nat) : Int) else 0) * T y i - q i * T y i =
        V y i - (q i - (if (act i && !decide (0 ≤ V 0 i)) = true then ((2 ^ K : Nat) : Int) else 0)) * T y i := fun y i => by rw [Int.sub_mul]; omega
  refine ⟨fun i => q i - (if (act i && !decide (0 ≤ V 0 i)) = true then ((2 ^ K : Nat) : Int) else 0), ?_, ?_, ?_⟩
  · exact t1.congr fun y i _ _ => e y i
  · intro i hi ha
    simp [ha, t2 i hi ha]
  · intro y i hy hi
    have := t3 y i hy hi
    rw [e] at this
    dsimp only
    omega
theorem lead_ok (k : Cs N o h f) (z : R N x v) (l0 : ∀ i, i < N → 0 ≤ v i) (l1 : ∀ i, i < N → v i ≤ 4096) : U N (Nat.sub x h) v := by
  refine ((Mine.En.V.sub z.val k.h.val fun i hi => ?_).congr fun i hi => ?_).lid fun i hi => ?_
  all_goals have := l0 i hi; have := l1 i hi; omega
theorem clr_ok (k : Cs N o h f) {ac K : Nat} (hac : Mk N ac act) (hm : 0 < m) {D : Int} (hK : K ≤ 10) (h0 : 0 ≤ D) (hD : D + 4096 * (2 ^ (K + 1) : Nat) ≤ 16781312) (z : RX N X (n + 1) m F)
    (l0 : ∀ y i, y < m → i < N → -4096 ≤ F 0 y i ∧ F 0 y i ≤ 4096) (lh : ∀ i, i < N → 0 ≤ F 0 0 i) (l1 : ∀ x y i, x < n → y < m → i < N → -D ≤ F (x + 1) y i ∧ F (x + 1) y i ≤ D) :
    ∃ Q : Nat → Nat → Int, RX N (clr o h f ac K X) (n + 1) m (fun x y i => F x y i - (if x = 0 then 0 else Q x i) * F 0 y i) ∧ (∀ x i, i < N → act i = false → Q x i = 0) ∧
      ∀ x y i, x < n → y < m → i < N → -(D + 4096 * (2 ^ (K + 1) : Nat)) ≤ F (x + 1) y i - Q (x + 1) i * F 0 y i ∧ F (x + 1) y i - Q (x + 1) i * F 0 y i ≤ D + 4096 * (2 ^ (K + 1) : Nat) := by
  have hd := z.hd (by (with_reducible exact Nat.succ_pos _))
  have hL : U N (Nat.sub (hdd (hdl X)) h) (F 0 0) := lead_ok k (hd.hd hm) lh fun i hi => (l0 0 i hm hi).2
  have hP : RP N (mp (fun x => Nat.sub x (Nat.mul 33550336 o)) (hdl X)) m (F 0) :=
    ⟨mp_len.trans hd.1, fun y hy => ⟨by
      rw [mp_get (d := 0) (by rw [hd.1]; exact hy)]
      refine ((V.sub (hd.2 y hy).val (k.o.con' (k := 33550336) (by decide)).val fun i hi => ?_).congr fun i hi => ?_).lid fun i hi => ?_
      all_goals have := l0 y i hy hi; omega, fun i hi => l0 y i hy hi⟩⟩
  have ht := z.tl
  have hq : ∀ x : Nat, ∃ q : Nat → Int, x < n → (RL N (clrRow o f ac (Nat.sub (hdd (hdl X)) h) K (mp (fun x => Nat.sub x (Nat.mul 33550336 o)) (hdl X)) ((tll X).getD x [])) m (fun y i => F (x + 1) y i - q i * F 0 y i) ∧ (∀ i, i < N → act i = false → q i = 0) ∧
      ∀ y i, y < m → i < N → -(D + 4096 * (2 ^ (K + 1) : Nat)) ≤ F (x + 1) y i - q i * F 0 y i ∧ F (x + 1) y i - q i * F 0 y i ≤ D + 4096 * (2 ^ (K + 1) : Nat)) := fun x => by
    by_cases hx : x < n
    · obtain ⟨q, h1, h2, h3⟩ := clrRow_ok k hac hL (fun i hi => (l0 0 i hm hi).2) hP hm hK h0 hD (ht.2 x hx) fun y i hy hi => l1 x y i hx hy hi
      exact ⟨q, fun _ => ⟨h1, h2, h3⟩⟩
    · exact ⟨fun _ => 0, fun h => absurd h hx⟩
  obtain ⟨Q, hQ⟩ := Classical.axiomOfChoice hq
  refine ⟨fun x i => if x - 1 < n then Q (x - 1) i else 0, RX.mk (hd.congr fun y i _ _ => by simp) ⟨mp_len.trans ht.1, fun x hx => ?_⟩, ?_, ?_⟩
  · rw [show clrRows o h f ac K (hdl X) (tll X) = mp (clrRow o f ac (Nat.sub (hdd (hdl X)) h) K (mp (fun x => Nat.sub x (Nat.mul 33550336 o)) (hdl X))) (tll X) from rfl, mp_get (d := []) (by rw [ht.1]; exact hx)]
    exact (hQ x hx).1.congr fun y i _ _ => by simp [hx]
  · intro x i hi ha
    dsimp only
    split
    · rename_i hx; exact (hQ _ hx).2.1 i hi ha
    · rfl
  · intro x y i hx hy hi
    have := (hQ x hx).2.2 y i hy hi
    simp only [Nat.add_sub_cancel, hx, if_true]
    exact this
end
end En
end Mine
end
-- En6
section
set_option Elab.async false
set_option linter.unusedVariables false
set_option linter.unusedSimpArgs false
namespace Mine
namespace En
section
variable {N x y m n a c o h f i k K : Nat} {l l' r P : List Nat} {X Y : List (List Nat)} {V W T : Nat → Nat → Int} {F G : Nat → Nat → Nat → Int} {p q act : Nat → Bool} {v u ℓ : Nat → Int}
theorem alls_get {P : Nat → Bool} : ∀ {l : List Nat} {y : Nat}, alls P l = true → y < l.length → P (l.getD y 0) = true
  | [], y, _, h => absurd h (Nat.not_lt_zero y)
  | a :: l, y, e, h => by
    have e' : bif' (P a) (alls P l) false = true := e
    cases hp : P a with
    | false => rw [hp] at e'; cases e'
    | true =>
      rw [hp] at e'
      cases y with
      | zero => exact hp
      | succ y => exact alls_get (l := l) e' (by simpa using h)
theorem allss_get {P : Nat → Bool} : ∀ {X : List (List Nat)} {x : Nat}, allss P X = true → x < X.length → alls P (X.getD x []) = true
  | [], y, _, h => absurd h (Nat.not_lt_zero y)
  | a :: l, y, e, h => by
    have e' : bif' (alls P a) (allss P l) false = true := e
    cases hp : alls P a with
    | false => rw [hp] at e'; cases e'
    | true =>
      rw [hp] at e'
      cases y with
      | zero => exact hp
      | succ y => exact allss_get (X := l) e' (by simpa using h)
theorem remOk_ok (k : Cs N o h f) {na L : Nat} (e : remOk o h f na L x = true) (hna : Mk N na fun i => !act i) (hL : U N L ℓ) (l2 : ∀ i, i < N → ℓ i ≤ 4096) (z : R N x v) (l : ∀ i, i < N → -20000000 ≤ v i ∧ v i ≤ 20000000) :
    ∀ i, i < N → act i = true → 0 ≤ v i ∧ v i < ℓ i := by
  have h1 : R N (Nat.sub (Nat.add (Nat.add L h) h) (Nat.add x o)) fun i => ℓ i - 1 - v i := by
    refine V.r (V.sub ((hL.val.add k.h.val).add k.h.val) (z.val.add k.o.val) fun i hi => ?_) fun i hi => ?_
    all_goals have := l i hi; have := l2 i hi; have := hL.rng i hi; omega
  have h2 := Mk.or hna (Mk.and (geR k z) (geR k h1))
  rw [show Nat.lor na (Nat.land (ge o x) (ge o (Nat.sub (Nat.add (Nat.add L h) h) (Nat.add x o)))) = f from beq_eq e] at h2
  intro i hi ha
  have := Mk.inj h2 k.f i hi
  simp [ha] at this
  omega
theorem high_and {d : Nat} (hd : d < 67108864) : Nat.land d 67100672 = 8192 * (d / 8192) := by
  apply Nat.eq_of_testBit_eq
  intro i
  show (d &&& (67100672 : Nat)).testBit i = _
  have e1 : (67100672 : Nat) = 2 ^ 13 * (2 ^ 13 - 1) := by decide
  have e2 : 8192 * (d / 8192) = 2 ^ 13 * (d / 2 ^ 13) := rfl
  rw [e1, e2, Nat.testBit_and, Nat.testBit_two_pow_mul, Nat.testBit_two_pow_mul, Nat.testBit_two_pow_sub_one, Nat.testBit_div_two_pow]
  by_cases h1 : 13 ≤ i
  · by_cases h2 : i - 13 < 13
    · simp [h1, h2, show i - 13 + 13 = i by (with_reducible exact Nat.sub_add_cancel (by assumption))]
    · have : d.testBit i = false := Nat.testBit_lt_two_pow (Nat.lt_of_lt_of_le hd (Nat.pow_le_pow_right (by decide : 2 > 0) (by omega : 26 ≤ i)))
      simp [h1, h2, this, show i - 13 + 13 = i by (with_reducible exact Nat.sub_add_cancel (by assumption))]
  · simp [h1]
theorem rng_ok (k : Cs N o h f) (e : rng o h x = true) (z : R N x v) (l : ∀ i, i < N → -33554432 ≤ v i ∧ v i ≤ 33550335) : ∀ i, i < N → -4096 ≤ v i ∧ v i ≤ 4095 := by
  have h1 : U N (Nat.add x (Nat.mul 4096 o)) fun i => v i + 33558528 :=
    ((V.add z.val (k.o.con' (k := 4096) (by decide)).val).congr fun i hi => by omega).lid fun i hi => by have := l i hi; omega
  have h2 := (k.o.con' (k := 67100672) (by decide)).pkc
  have h3 := U.pkc (k := 33554432) k.h
  have e' := beq_eq e
  obtain ⟨d, d1, d2⟩ := h1
  rw [d1, h2, h3, pk_land (fun i hi => (d2 i hi).2) (fun i _ => by decide)] at e'
  have := pk_inj (fun i hi => by have := (d2 i hi).2; rw [high_and this]; omega) (fun i _ => by decide) e'
  intro i hi
  have t := this i hi
  have t2 := d2 i hi
  dsimp only at t t2
  rw [high_and t2.2] at t
  omega
theorem sumr_ok (k : Cs N o h f) : ∀ {l : List Nat} {n s : Nat} {V : Nat → Nat → Int} {σ : Nat → Int} {D : Int}, RL N l n V → R N s σ → (∀ y i, y < n → i < N → -4096 ≤ V y i ∧ V y i ≤ 4096) → (∀ i, i < N → -D ≤ σ i ∧ σ i ≤ D) → D + 4096 * n ≤ 33554431 →
    ∃ τ, R N (sumr h l s) τ ∧ (∀ i, i < N → -(D + 4096 * n) ≤ τ i ∧ τ i ≤ D + 4096 * n) ∧ ∀ i, i < N → 0 ≤ σ i → (∀ y, y < n → 0 ≤ V y i) → 0 ≤ τ i ∧ (τ i < 1 ↔ σ i < 1 ∧ ∀ y, y < n → V y i = 0)
  | [], n, s, V, σ, D, z, hs, _, l2, hD => ⟨σ, hs, fun i hi => by have := l2 i hi; have := z.1; simp at this; omega, fun i hi h0 _ => ⟨h0, fun h => ⟨h, fun y hy => by have := z.1; simp at this; omega⟩, fun h => h.1⟩⟩
  | e :: l, n, s, V, σ, D, z, hs, l1, l2, hD => by
    obtain ⟨n, rfl, h0, ht⟩ := z.cons
    have h1 : R N (Nat.sub (Nat.add s e) h) fun i => σ i + V 0 i := by
      refine Mine.En.V.r (Mine.En.V.sub (hs.val.add h0.val) k.h.val fun i hi => ?_) fun i hi => ?_
      all_goals have := l1 0 i (by (with_reducible exact Nat.succ_pos _)) hi; have := l2 i hi; omega
    obtain ⟨τ, t1, t2, t3⟩ := sumr_ok k (D := D + 4096) ht h1 (fun y i hy hi => l1 (y + 1) i (by (with_reducible exact Nat.succ_lt_succ (by assumption))) hi) (fun i hi => by have := l1 0 i (by (with_reducible exact Nat.succ_pos _)) hi; have := l2 i hi; omega) (by omega)
    refine ⟨τ, t1, fun i hi => by have := t2 i hi; omega, fun i hi hs hv => ?_⟩
    have v0 := hv 0 (by (with_reducible exact Nat.succ_pos _))
    obtain ⟨g1, g2⟩ := t3 i hi (by omega) (fun y hy => hv (y + 1) (by (with_reducible exact Nat.succ_lt_succ (by assumption))))
    refine ⟨g1, g2.trans ⟨fun ⟨a, b⟩ => ⟨by omega, fun y hy => ?_⟩, fun ⟨a, b⟩ => ⟨?_, fun y hy => b (y + 1) (by (with_reducible exact Nat.succ_lt_succ (by assumption)))⟩⟩⟩
    · cases y with
      | zero => omega
      | succ y => exact b y (by (with_reducible exact Nat.lt_of_succ_lt_succ (by assumption)))
    · have := b 0 (by (with_reducible exact Nat.succ_pos _)); omega
theorem nzp_ok (k : Cs N o h f) (z : R N x v) (l : ∀ i, i < N → -33554432 < v i) : Mk N (nzp o x) fun i => decide (1 ≤ v i) := by
  have h1 : R N (Nat.sub x o) fun i => v i - 1 := by
    refine V.r (V.sub z.val k.o.val fun i hi => ?_) fun i hi => ?_
    all_goals have := l i hi; have := R.rng z i hi; omega
  exact (geR k h1).congr fun i _ => by congr 1; apply propext; omega
theorem undLoop_ok (k : Cs N o h f) {L : Nat} (hL : U N L ℓ) (l2 : ∀ i, i < N → ℓ i ≤ 4096) : ∀ {K x : Nat} {v : Nat → Int}, K ≤ 13 → R N x v → (∀ i, i < N → -4096 ≤ v i ∧ v i ≤ 16777216) →
    ∃ q : Nat → Int, R N (undLoop o L K x) (fun i => v i - q i * ℓ i) ∧ ∀ i, i < N → -4096 ≤ v i - q i * ℓ i ∧ v i - q i * ℓ i ≤ 16777216
  | 0, x, v, _, z, l => ⟨fun _ => 0, z.congr fun i _ => by simp, fun i hi => by have := l i hi; simp; (with_reducible assumption)⟩
  | K + 1, x, v, hK, z, l => by
    obtain ⟨s, bd⟩ := shL (j := K) (by (with_reducible exact Nat.le_of_succ_le_succ (by assumption))) hL l2
    have h2 : 2 ^ K ≤ 2 ^ 12 := Nat.pow_le_pow_right (by decide) (by (with_reducible exact Nat.le_of_succ_le_succ (by assumption)))
    have hc := cmpL k (j := K) (by (with_reducible exact Nat.le_of_succ_le_succ (by assumption))) hL l2 z fun i hi => by have := l i hi; omega
    have hs : R N (undStep o L K x) fun i => v i - (if decide (0 ≤ v i - ℓ i * (2 ^ K : Nat)) then ℓ i * (2 ^ K : Nat) else 0) := by
      refine V.r (V.sub z.val (U.land s hc).val fun i hi => ?_) fun i hi => ?_
      all_goals
        have := l i hi; have := bd i hi; have := R.rng z i hi
        have h2 : 2 ^ K ≤ 2 ^ 12 := Nat.pow_le_pow_right (by decide) (by (with_reducible exact Nat.le_of_succ_le_succ (by assumption)))
        try dsimp only
        split
        · omega
        · omega
    have lb : ∀ i, i < N → -4096 ≤ v i - (if decide (0 ≤ v i - ℓ i * (2 ^ K : Nat)) then ℓ i * (2 ^ K : Nat) else 0) ∧ v i - (if decide (0 ≤ v i - ℓ i * (2 ^ K : Nat)) then ℓ i * (2 ^ K : Nat) else 0) ≤ 16777216 := fun i hi => by
      have := l i hi; have := bd i hi
      split
      · rename_i e; have : 0 ≤ v i - ℓ i * (2 ^ K : Nat) := by simpa using e
        omega
      · omega
    obtain ⟨q, t1, t2⟩ := undLoop_ok k hL l2 (K := K) (by (with_reducible exact Nat.le_trans (Nat.le_add_right _ _) (by assumption))) hs lb
    have e : ∀ i, v i - (if decide (0 ≤ v i - ℓ i * (2 ^ K : Nat)) then ℓ i * (2 ^ K : Nat) else 0) - q i * ℓ i = v i - ((if decide (0 ≤ v i - ℓ i * (2 ^ K : Nat)) then ((2 ^ K : Nat) : Int) else 0) + q i) * ℓ i := fun i => by
      rw [Int.add_mul]
      split
      · rw [Int.mul_comm (ℓ i)]; omega
      · simp
    refine ⟨fun i => (if decide (0 ≤ v i - ℓ i * (2 ^ K : Nat)) then ((2 ^ K : Nat) : Int) else 0) + q i, t1.congr fun i _ => e i, fun i hi => ?_⟩
    have := t2 i hi
    rw [e] at this
    exact this
theorem und1_ok (k : Cs N o h f) {cm ncm L KU : Nat} (hKU : KU ≤ 11) (hcm : Mk N cm p) (hL : U N L ℓ) (l2 : ∀ i, i < N → ℓ i ≤ 4096) (z : R N x v) (l : ∀ i, i < N → -4096 ≤ v i ∧ v i ≤ 4096) :
    ∃ q : Nat → Int, R N (und1 o h cm ncm L KU x) (fun i => (if p i then v i else 0) - q i * ℓ i) ∧ ∀ i, i < N → -4096 ≤ (if p i then v i else 0) - q i * ℓ i ∧ (if p i then v i else 0) - q i * ℓ i ≤ 16777216 := by
  obtain ⟨s, bd⟩ := shL (j := KU) (by (with_reducible exact Nat.le_trans (by assumption) (by decide))) hL l2
  have h2 : 2 ^ KU ≤ 2 ^ 11 := Nat.pow_le_pow_right (by decide) hKU
  have hz : U N h fun i => (0 : Int) + 33554432 := k.h.congr fun i _ => by decide
  have hx := U.mux hcm z hz
  have h1 : R N (Nat.add (mux cm x h) (Nat.shiftLeft L KU)) fun i => (if p i then v i else 0) + ℓ i * (2 ^ KU : Nat) := by
    refine V.r (V.add hx.val s.val) fun i hi => ?_
    have := l i hi; have := bd i hi
    try dsimp only
    split <;> omega
  obtain ⟨q, t1, t2⟩ := undLoop_ok k hL l2 (K := KU + 1) (by (with_reducible exact Nat.le_trans (Nat.succ_le_succ (by assumption)) (by decide))) h1 fun i hi => by
    have := l i hi; have := bd i hi
    split <;> omega
  have e : ∀ i, (if p i then v i else 0) + ℓ i * (2 ^ KU : Nat) - q i * ℓ i = (if p i then v i else 0) - (q i - (2 ^ KU : Nat)) * ℓ i := fun i => by
    rw [Int.sub_mul, Int.mul_comm (ℓ i)]; omega
  exact ⟨fun i => q i - (2 ^ KU : Nat), t1.congr fun i _ => e i, fun i hi => by have := t2 i hi; rw [e] at this; exact this⟩
/-- the block's rows mod L, on the lanes of p -/
theorem undRows_ok (k : Cs N o h f) {cm ncm L KU : Nat} (hKU : KU ≤ 11) (hcm : Mk N cm p) (hL : U N L ℓ) (l2 : ∀ i, i < N → ℓ i ≤ 4096) (z : RX N X a m F) (l : ∀ x y i, x < a → y < m → i < N → -4096 ≤ F x y i ∧ F x y i ≤ 4096) :
    ∃ Q : Nat → Nat → Nat → Int, RX N (mp (undRow o h cm ncm L KU) X) a m (fun x y i => (if p i then F x y i else 0) - Q x y i * ℓ i) ∧ ∀ x y i, x < a → y < m → i < N → -4096 ≤ (if p i then F x y i else 0) - Q x y i * ℓ i ∧ (if p i then F x y i else 0) - Q x y i * ℓ i ≤ 16777216 := by
  have hq : ∀ x : Nat, ∃ g : Nat → Nat → Int, ∀ y, x < a → y < m → R N (und1 o h cm ncm L KU ((X.getD x []).getD y 0)) (fun i => (if p i then F x y i else 0) - g y i * ℓ i) ∧ ∀ i, i < N → -4096 ≤ (if p i then F x y i else 0) - g y i * ℓ i ∧ (if p i then F x y i else 0) - g y i * ℓ i ≤ 16777216 := fun x => by
    have hy : ∀ y : Nat, ∃ g : Nat → Int, x < a → y < m → R N (und1 o h cm ncm L KU ((X.getD x []).getD y 0)) (fun i => (if p i then F x y i else 0) - g i * ℓ i) ∧ ∀ i, i < N → -4096 ≤ (if p i then F x y i else 0) - g i * ℓ i ∧ (if p i then F x y i else 0) - g i * ℓ i ≤ 16777216 := fun y => by
      by_cases hx : x < a
      · by_cases hy : y < m
        · obtain ⟨g, t1, t2⟩ := und1_ok (ncm := ncm) k hKU hcm hL l2 ((z.2 x hx).2 y hy) fun i hi => l x y i hx hy hi
          exact ⟨g, fun _ _ => ⟨t1, t2⟩⟩
        · exact ⟨fun _ => 0, fun _ h => absurd h hy⟩
      · exact ⟨fun _ => 0, fun h => absurd h hx⟩
    obtain ⟨g, hg⟩ := Classical.axiomOfChoice hy
    exact ⟨g, hg⟩
  obtain ⟨Q, hQ⟩ := Classical.axiomOfChoice hq
  refine ⟨Q, ⟨mp_len.trans z.1, fun x hx => ?_⟩, fun x y i hx hy hi => (hQ x y hx hy).2 i hi⟩
  rw [mp_get (d := []) (by rw [z.1]; exact hx)]
  refine ⟨mp_len.trans (z.2 x hx).1, fun y hy => ?_⟩
  rw [show undRow o h cm ncm L KU (X.getD x []) = mp (und1 o h cm ncm L KU) (X.getD x []) from rfl, mp_get (d := 0) (by rw [(z.2 x hx).1]; exact hy)]
  exact (hQ x y hx hy).1
theorem orNz_ok (k : Cs N o h f) : ∀ {l : List Nat} {n : Nat} {V : Nat → Nat → Int}, RL N l n V → (∀ y i, y < n → i < N → -33554432 < V y i) → ∃ w : Nat → Bool, Mk N (orNz o l) w ∧ ∀ i, i < N → (w i = true ↔ ∃ y, y < n ∧ 1 ≤ V y i)
  | [], n, V, z, _ => ⟨fun _ => false, ⟨fun _ => 0, pk_zero.symm, fun i hi => by simp⟩, fun i hi => ⟨fun h => (nomatch h), fun ⟨y, hy, _⟩ => by have := z.1; simp at this; omega⟩⟩
  | e :: l, n, V, z, lb => by
    obtain ⟨n, rfl, h0, ht⟩ := z.cons
    obtain ⟨w, w1, w2⟩ := orNz_ok k ht fun y i hy hi => lb (y + 1) i (by (with_reducible exact Nat.succ_lt_succ (by assumption))) hi
    refine ⟨_, Mk.or (nzp_ok k h0 fun i hi => lb 0 i (by (with_reducible exact Nat.succ_pos _)) hi) w1, fun i hi => ?_⟩
    simp only [Bool.or_eq_true, decide_eq_true_eq, w2 i hi]
    constructor
    · rintro (h | ⟨y, hy, h⟩)
      · exact ⟨0, by (with_reducible exact Nat.succ_pos _), h⟩
      · exact ⟨y + 1, by (with_reducible exact Nat.succ_lt_succ (by assumption)), h⟩
    · intro zz0
      obtain ⟨y, hy, h⟩ := zz0
      cases y with
      | zero => exact .inl h
      | succ y => exact .inr ⟨y, by (with_reducible exact Nat.lt_of_succ_lt_succ (by assumption)), h⟩
/-- row x is undivided in lane i -/
noncomputable def Und (cp : Nat → Bool) (G : Nat → Nat → Nat → Int) (m1 x i : Nat) : Prop := cp i = true ∧ ∃ y, y < m1 ∧ 1 ≤ G x y i
/-- what addAll does in lane i -/
structure AddL (n m m1 : Nat) (cp p p' : Nat → Bool) (F G : Nat → Nat → Nat → Int) (A A' : Nat → Nat → Int) (i : Nat) : Prop where
  off : p i = false → p' i = false ∧ ∀ y, y < m → A' y i = A y i
  on : p i = true → (p' i = true ∧ (∀ x, x < n → ¬ Und cp G m1 x i) ∧ ∀ y, y < m → A' y i = A y i) ∨ (p' i = false ∧ ∃ x, x < n ∧ Und cp G m1 x i ∧ (∀ x', x' < x → ¬ Und cp G m1 x' i) ∧ ∀ y, y < m → A' y i = A y i + F x y i)
theorem AddL.step {n : Nat} {cp p p' p₂ : Nat → Bool} {A A' A₂ : Nat → Nat → Int} {m1 i : Nat} {w : Bool} (hw : w = true ↔ Und cp G m1 0 i) (h2 : p₂ i = (p i && !w)) (hA : ∀ y, A₂ y i = A y i + if (p i && w) = true then F 0 y i else 0)
    (z : AddL n m m1 cp p₂ p' (fun x => F (x + 1)) (fun x => G (x + 1)) A₂ A' i) : AddL (n + 1) m m1 cp p p' F G A A' i where
  off hp := by
    obtain ⟨r1, r2⟩ := z.off (by rw [h2, hp]; rfl)
    exact ⟨r1, fun y hy => by rw [r2 y hy, hA, hp]; simp⟩
  on hp := by
    cases e : w with
    | true =>
      rw [e] at h2 hA hw
      obtain ⟨r1, r2⟩ := z.off (by rw [h2, hp]; rfl)
      exact .inr ⟨r1, 0, Nat.succ_pos _, hw.1 rfl, fun x' h => absurd h (Nat.not_lt_zero _), fun y hy => by rw [r2 y hy, hA, hp]; rfl⟩
    | false =>
      rw [e] at h2 hA hw
      have n0 : ¬ Und cp G m1 0 i := fun u => nomatch hw.2 u
      have a0 : ∀ y, A₂ y i = A y i := fun y => by rw [hA]; simp
      have up : ∀ k, (∀ x, x < k → ¬ Und cp (fun x => G (x + 1)) m1 x i) → ∀ x, x < k + 1 → ¬ Und cp G m1 x i := fun k h x hx => by
        cases x with
        | zero => exact n0
        | succ x => exact h x (Nat.lt_of_succ_lt_succ hx)
      rcases z.on (by rw [h2, hp]; rfl) with ⟨r1, r2, r3⟩ | ⟨r1, x, hx, r2, r3, r4⟩
      · exact .inl ⟨r1, up n r2, fun y hy => by rw [r3 y hy, a0]⟩
      · exact .inr ⟨r1, x + 1, Nat.succ_lt_succ hx, r2, up x r3, fun y hy => by rw [r4 y hy, a0]⟩
theorem addStep_ok (k : Cs N o h f) {a : Nat} {A : Nat → Nat → Int} (g : Mk N c p) {ll : List Nat} (ha : RL N ll m A) (hx0 : RL N l m T) (lA : ∀ y i, y < m → i < N → -8192 ≤ A y i ∧ A y i ≤ 8192) (lT : ∀ y i, y < m → i < N → -4096 ≤ T y i ∧ T y i ≤ 4096) :
    RL N (addTop h c ll l) m fun y i => A y i + if p i then T y i else 0 := by
  unfold addTop
  cases e : Nat.beq c 0 with
  | true =>
    rw [beq_eq e] at g
    exact ha.congr fun y i hy hi => by rw [g.none i hi]; simp
  | false =>
    refine RL.zip ha hx0 fun x x2 y hy hx hx2 => ?_
    refine Mine.En.V.r (Mine.En.V.sub (hx.val.add (U.land hx2 g).val) (U.land k.h g).val fun i hi => ?_) fun i hi => ?_
    all_goals
      have := lA y i hy hi; have := lT y i hy hi
      try dsimp only
      cases e : p i
      · simp; omega
      · simp; omega
theorem addAll_ok (k : Cs N o h f) {cm : Nat} {cp : Nat → Bool} (hcm : Mk N cm cp) {m1 : Nat} {J : Nat → List Nat → Bool} : ∀ {Us X : List (List Nat)} {n g : Nat} {a : List Nat} {p : Nat → Bool} {F G : Nat → Nat → Nat → Int} {A : Nat → Nat → Int},
    RX N Us n m1 G → RX N X n m F → Mk N g p → RL N a m A → (∀ x y i, x < n → y < m1 → i < N → -33554432 < G x y i) → (∀ x y i, x < n → y < m → i < N → -4096 ≤ F x y i ∧ F x y i ≤ 4096) →
    (∀ y i, y < m → i < N → p i = true → -4096 ≤ A y i ∧ A y i ≤ 4096) → (∀ y i, y < m → i < N → -8192 ≤ A y i ∧ A y i ≤ 8192) → addAll o h f Us X cm g a J = true →
    ∃ g' a' p' A', J g' a' = true ∧ Mk N g' p' ∧ RL N a' m A' ∧ (∀ y i, y < m → i < N → -8192 ≤ A' y i ∧ A' y i ≤ 8192) ∧ ∀ i, i < N → AddL n m m1 cp p p' F G A A' i
  | [], X, n, g, a, p, F, G, A, zu, zx, hg, ha, lG, lF, lA, lA2, e => ⟨g, a, p, A, e, hg, ha, lA2, fun i hi => ⟨fun h => ⟨h, fun _ _ => rfl⟩, fun h => .inl ⟨h, fun x hx => by rw [← zu.1] at hx; exact absurd hx (Nat.not_lt_zero _), fun _ _ => rfl⟩⟩⟩
  | u :: Us, X, n, g, a, p, F, G, A, zu, zx, hg, ha, lG, lF, lA, lA2, e => by
    obtain ⟨n, rfl, hu, ht⟩ := zu.cons
    obtain ⟨w, w1, w2⟩ := orNz_ok k hu fun y i hy hi => lG 0 y i (Nat.succ_pos _) hy hi
    have hw := Mk.and hcm w1
    have hA := addStep_ok (a := 0) k (Mk.and hg hw) ha (zx.hd (Nat.succ_pos _)) lA2 fun y i hy hi => lF 0 y i (Nat.succ_pos _) hy hi
    obtain ⟨g', a', p', A', t1, t2, t3, t4, t5⟩ := addAll_ok k hcm (J := J) ht zx.tl (Mk.and hg (Mk.not k hw)) hA (fun x y i hx hy hi => lG (x + 1) y i (Nat.succ_lt_succ hx) hy hi) (fun x y i hx hy hi => lF (x + 1) y i (Nat.succ_lt_succ hx) hy hi)
      (fun y i hy hi hp => by
        rw [Bool.and_eq_true, Bool.not_eq_true'] at hp
        rw [hp.2, Bool.and_false]
        have := lA y i hy hi hp.1
        simpa using this)
      (fun y i hy hi => by
        have h1 := lA2 y i hy hi; have h2 := lF 0 y i (Nat.succ_pos _) hy hi
        cases hp : (p i && (cp i && w i)) with
        | true =>
          have h3 := lA y i hy hi (by rw [Bool.and_eq_true] at hp; exact hp.1)
          rw [if_pos rfl]; omega
        | false => simpa using h1) e
    exact ⟨g', a', p', A', t1, t2, t3, t4, fun i hi => (t5 i hi).step (w := cp i && w i) (by rw [Bool.and_eq_true, w2 i hi]; rfl) rfl fun y => rfl⟩
end
end En
end Mine
end
-- En7
section
set_option Elab.async false
set_option linter.unusedVariables false
set_option linter.unusedSimpArgs false
namespace Mine
namespace En
section
variable {n p m : Nat} {S S' M : Nat → Nat → Int} {e : Int}
noncomputable def Cln (n p : Nat) (S : Nat → Nat → Int) : Prop := ∀ x y, x < n → y < n → x ≠ y → (x < p ∨ y < p) → S x y = 0
/-- from the block M (up to its sign) at place p a Run is there -/
noncomputable def Ex (n p : Nat) (M : Nat → Nat → Int) : Prop := ∀ S e, (e = 1 ∨ e = -1) → Cln n p S → (∀ x y, p + x < n → p + y < n → S (p + x) (p + y) = e * M x y) → ∃ k R, Run n R k S p
theorem kv_lt {v u : Int} {c d : Nat} (hv : v ≠ 0) (hu : u ≠ 0) (h : v.natAbs < u.natAbs) (hc : c < 64) : kv v c ≤ kv u d := by
  unfold kv; rw [if_neg hv, if_neg hu]; omega
theorem kv_le {v u : Int} {c d : Nat} (hv : v ≠ 0) (hu : u ≠ 0) (h : v.natAbs ≤ u.natAbs) (hc : c ≤ d) : kv v c ≤ kv u d := by
  unfold kv; rw [if_neg hv, if_neg hu]; omega
theorem kv_inj {v u : Int} {c d : Nat} (hv : v ≠ 0) (hu : u ≠ 0) (hc : c < 64) (hd : d < 64) (h : kv v c = kv u d) : c = d := by
  unfold kv at h; rw [if_neg hv, if_neg hu] at h; omega
/-- f is the least of what was seen; the places with the rank below r were -/
noncomputable def Lst (S : Nat → Nat → Int) (p m r : Nat) : Option (Nat × Nat) → Prop
  | none => ∀ x y, y < m → 8 * x + y < r → S (p + x) (p + y) = 0
  | some q => ∃ a b, q = (p + a, p + b) ∧ b < m ∧ 8 * a + b < r ∧ S (p + a) (p + b) ≠ 0 ∧ ∀ x y, y < m → 8 * x + y < r → S (p + x) (p + y) ≠ 0 → kv (S (p + a) (p + b)) (8 * a + b) ≤ kv (S (p + x) (p + y)) (8 * x + y)
theorem rank_eq {m x y i j : Nat} (hm : m ≤ 8) (hy : y < m) (hj : j < m) (h : 8 * x + y < 8 * i + j + 1) (h2 : ¬ 8 * x + y < 8 * i + j) : x = i ∧ y = j := by omega
theorem Lst.step {i j : Nat} {f : Option (Nat × Nat)} (hm : m ≤ 8) (hj : j < m) (h64 : 8 * i + j < 64) (h : Lst S p m (8 * i + j) f) : Lst S p m (8 * i + j + 1) (better S f (p + i, p + j)) := by
  unfold better
  split
  · rename_i c
    simp only [Bool.and_eq_true, decide_eq_true_eq] at c
    have hn0 : S (p + i) (p + j) ≠ 0 := Int.natAbs_pos.mp c.1
    refine ⟨i, j, rfl, hj, Nat.lt_succ_self _, hn0, fun x y hy hv hn => ?_⟩
    by_cases h2 : 8 * x + y < 8 * i + j
    · cases f with
      | none => exact absurd (h x y hy h2) hn
      | some q =>
        obtain ⟨a, b, rfl, h3, h4, h5, h6⟩ := h
        exact Int.le_trans (kv_lt hn0 h5 (of_decide_eq_true c.2) h64) (h6 x y hy h2 hn)
    · obtain ⟨rfl, rfl⟩ := rank_eq hm hy hj hv h2
      exact Int.le_refl _
  · rename_i c
    simp only [Bool.and_eq_true, decide_eq_true_eq] at c
    cases f with
    | none =>
      intro x y hy hv
      by_cases h2 : 8 * x + y < 8 * i + j
      · exact h x y hy h2
      · obtain ⟨rfl, rfl⟩ := rank_eq hm hy hj hv h2
        apply Classical.byContradiction
        intro hn
        exact c ⟨Int.natAbs_pos.mpr hn, rfl⟩
    | some q =>
      obtain ⟨a, b, rfl, h3, h4, h5, h6⟩ := h
      refine ⟨a, b, rfl, h3, Nat.lt_succ_of_lt h4, h5, fun x y hy hv hn => ?_⟩
      by_cases h2 : 8 * x + y < 8 * i + j
      · exact h6 x y hy h2 hn
      · obtain ⟨rfl, rfl⟩ := rank_eq hm hy hj hv h2
        refine kv_le h5 hn (Nat.le_of_not_lt fun hl => c ⟨Int.natAbs_pos.mpr hn, decide_eq_true hl⟩) (Nat.le_of_lt h4)
theorem scanRow_lst {a : Nat} (ha : a < 8) (hm : m ≤ 8) : ∀ {k f}, k ≤ m → Lst S p m (8 * a) f → Lst S p m (8 * a + k) (scanRow S p (p + a) k f)
  | 0, f, _, h => h
  | k + 1, f, hk, h => (scanRow_lst ha hm (k := k) (Nat.le_of_succ_le hk) h).step hm hk (by omega)
theorem Lst.up {r r' : Nat} {f : Option (Nat × Nat)} (h : Lst S p m r f) (hr : r ≤ r') (e : ∀ x y, y < m → 8 * x + y < r' → 8 * x + y < r) : Lst S p m r' f := by
  cases f with
  | none => exact fun x y hy hv => h x y hy (e x y hy hv)
  | some q =>
    obtain ⟨a, b, h1, h2, h3, h4, h5⟩ := h
    exact ⟨a, b, h1, h2, Nat.lt_of_lt_of_le h3 hr, h4, fun x y hy hv => h5 x y hy (e x y hy hv)⟩
theorem scanAll_lst (hm : m ≤ 8) : ∀ {k}, k ≤ 8 → Lst S p m (8 * k) (scanAll S p m k)
  | 0, _ => fun x y _ h => absurd h (Nat.not_lt_zero _)
  | k + 1, hk => (scanRow_lst (a := k) hk hm (Nat.le_refl m) (scanAll_lst hm (k := k) (Nat.le_of_succ_le hk))).up (by omega) fun x y hy hv => by omega
theorem scan_some (hm : m ≤ 8) {I J : Nat} (hI : I < m) (hJ : J < m) (h0 : S (p + I) (p + J) ≠ 0) (hl : ∀ x y, x < m → y < m → S (p + x) (p + y) ≠ 0 → kv (S (p + I) (p + J)) (8 * I + J) ≤ kv (S (p + x) (p + y)) (8 * x + y)) :
    scanAll S p m m = some (p + I, p + J) := by
  have h := scanAll_lst (S := S) (p := p) hm (k := m) hm
  have r : 8 * I + J < 8 * m := by omega
  cases e : scanAll S p m m with
  | none => rw [e] at h; exact absurd (h I J hJ r) h0
  | some q =>
    rw [e] at h
    obtain ⟨a, b, h1, h2, h3, h4, h5⟩ := h
    have a1 := h5 I J hJ r h0
    have a2 := hl a b (by omega) h2 h4
    have a3 := kv_inj h4 h0 (by omega) (by omega) (Int.le_antisymm a1 a2)
    rw [h1]
    obtain ⟨rfl, rfl⟩ : a = I ∧ b = J := by omega
    rfl
theorem scan_none (hm : m ≤ 8) (h : ∀ x y, x < m → y < m → S (p + x) (p + y) = 0) : scanAll S p m m = none := by
  have l := scanAll_lst (S := S) (p := p) hm (k := m) hm
  cases e : scanAll S p m m with
  | none => rfl
  | some q =>
    rw [e] at l
    obtain ⟨a, b, h1, h2, h3, h4, h5⟩ := l
    exact absurd (h a b (by omega) h2) h4
theorem Cln.brg {i j : Nat} (h : Cln n p S) (hi : i < n) (hj : j < n) (hp : p < n) (gi : p ≤ i) (gj : p ≤ j) : Cln n p (brg S i j p) := fun x y hx hy ne o => by
  show S (swp i p x) (swp j p y) = 0
  refine h _ _ (swp_lt' hi hp hx) (swp_lt' hj hp hy) ?_ ?_
  · rcases Nat.lt_or_ge x p with a | a <;> rcases Nat.lt_or_ge y p with b | b
    · rw [swp_of gi a, swp_of gj b]; exact ne
    · have := swp_ge gj b; rw [swp_of gi a]; omega
    · have := swp_ge gi a; rw [swp_of gj b]; omega
    · omega
  · rcases o with o | o
    · left; rw [swp_of gi o]; exact o
    · right; rw [swp_of gj o]; exact o
theorem Cln.clr (h : Cln n p S) (hp : p < n) : Cln n p (Mine.clr n S p) := fun x y hx hy ne o => by
  show CP S (Mine.RP S S p (n - (p + 1))) p (n - (p + 1)) x y = 0
  unfold CP Mine.RP
  have z1 := h x y hx hy ne o
  by_cases h1 : p < y
  · rw [if_pos (by omega), if_neg (show ¬ (p < x ∧ _) by omega), if_neg (show ¬ (p < x ∧ _) by omega), z1, h x p hx hp (by omega) (by omega)]; simp
  · rw [if_neg (by omega)]
    by_cases h2 : p < x
    · rw [if_pos (by omega), z1, h p y hp hy (by omega) (by omega)]; simp
    · rw [if_neg (by omega), z1]
theorem fdiv_sg {a q L : Int} {e : Int} (he : e = 1 ∨ e = -1) (h : 0 ≤ a - q * L ∧ a - q * L < L) : (e * a).fdiv (e * L) = q := by
  have hL : 0 < L := by omega
  have h1 : a.fdiv L = q := by
    rw [Int.fdiv_eq_ediv_of_nonneg _ (by (with_reducible exact Int.le_of_lt (by assumption)))]
    have : a = (a - q * L) + q * L := by omega
    rw [this, Int.add_mul_ediv_right _ _ (by omega), Int.ediv_eq_zero_of_lt h.1 h.2]; omega
  rcases he with rfl | rfl
  · simpa using h1
  · rw [Int.neg_one_mul, Int.neg_one_mul, Int.neg_fdiv_neg]; exact h1
end
end En
end Mine
end
-- En8
section
set_option Elab.async false
set_option linter.unusedVariables false
set_option linter.unusedSimpArgs false
namespace Mine
namespace En
noncomputable def sw (I x : Nat) : Nat := if x = I then 0 else if x = 0 then I else x
theorem sw_swp {p I x : Nat} : swp (p + I) p (p + x) = p + sw I x := by
  unfold swp sw
  by_cases h1 : x = I
  · rw [if_pos (by omega), if_pos h1]; rfl
  · rw [if_neg (by omega), if_neg h1]
    by_cases h2 : x = 0
    · rw [if_pos (by omega), if_pos h2]
    · rw [if_neg (by omega), if_neg h2]
theorem sw_lt {m I x : Nat} (hI : I < m) (hx : x < m) : sw I x < m := by unfold sw; split <;> (try split) <;> omega
/-- C: the block M after its least entry was brought and the cross cleared; L: the lead -/
structure Clrd (m : Nat) (M C : Nat → Nat → Int) : Prop where
  ex : ∃ (I J : Nat) (e : Int) (q r : Nat → Int), I < m ∧ J < m ∧ (e = 1 ∨ e = -1) ∧ M I J ≠ 0 ∧ (∀ x y, x < m → y < m → M x y ≠ 0 → kv (M I J) (8 * I + J) ≤ kv (M x y) (8 * x + y)) ∧
    C 0 0 = e * M I J ∧ 0 < C 0 0 ∧
    (∀ x y, x < m → y < m → C x y = (e * M (sw I x) (sw J y) - (if x = 0 then 0 else q x) * (e * M (sw I 0) (sw J y))) - (if y = 0 then 0 else r y) * (e * M (sw I x) (sw J 0) - (if x = 0 then 0 else q x) * (e * M (sw I 0) (sw J 0)))) ∧
    (∀ x, 0 < x → x < m → 0 ≤ C x 0 ∧ C x 0 < C 0 0) ∧ (∀ y, 0 < y → y < m → 0 ≤ C 0 y ∧ C 0 y < C 0 0)
section
variable {n p m : Nat} {S M C : Nat → Nat → Int} {e : Int}
theorem kv_sg {v : Int} {c : Nat} (he : e = 1 ∨ e = -1) : kv (e * v) c = kv v c := by
  have h1 : (e * v).natAbs = v.natAbs := by rcases he with rfl | rfl <;> simp
  have h2 : e * v = 0 ↔ v = 0 := by rcases he with rfl | rfl <;> simp
  unfold kv
  by_cases h : v = 0
  · simp [h]
  · rw [if_neg h, if_neg (fun z => h (h2.1 z)), h1]
theorem abs_sg {e v : Int} (he : e = 1 ∨ e = -1) : (e * v).natAbs = v.natAbs := by rcases he with rfl | rfl <;> simp
theorem small {v : Int} (h : -4096 ≤ v ∧ v ≤ 4096) : v.natAbs < 2 ^ 63 := by omega
theorem zero_sg {e v : Int} (he : e = 1 ∨ e = -1) : e * v = 0 ↔ v = 0 := by rcases he with rfl | rfl <;> simp
/-- what is so of a matrix with the block M (up to sign) -/
theorem clr_blk (hm : m ≤ 8) (hn : p + m = n) (bd : ∀ x y, x < m → y < m → -4096 ≤ M x y ∧ M x y ≤ 4096) (h : Clrd m M C) (he : e = 1 ∨ e = -1) (hc : Cln n p S) (hb : ∀ x y, p + x < n → p + y < n → S (p + x) (p + y) = e * M x y) :
    ∃ (i j : Nat) (g : Int), (g = 1 ∨ g = -1) ∧ scanAll S p (n - p) (n - p) = some (i, j) ∧ cellB (brg S i j p) n p ∧ Cln n p (Mine.clr n (brg S i j p) p) ∧
      (∀ x y, p + x < n → p + y < n → Mine.clr n (brg S i j p) p (p + x) (p + y) = g * C x y) ∧
      (isDone n (brg S i j p) p = true ↔ (∀ x, 0 < x → x < m → C x 0 = 0) ∧ (∀ y, 0 < y → y < m → C 0 y = 0)) := by
  obtain ⟨I, J, e', q, r, hI, hJ, he', h0, hl, hL, hp, hC, hx0, hy0⟩ := h.ex
  have m0 : 0 < m := Nat.zero_lt_of_lt hI
  have pl : ∀ {x}, x < m → p + x < n := fun h => hn ▸ Nat.add_lt_add_left h p
  have lp : ∀ {x}, p + x < n → x < m := fun h => Nat.lt_of_add_lt_add_left (hn.symm ▸ h)
  have hpn : p < n := pl m0
  have mn : n - p = m := by rw [← hn]; exact Nat.add_sub_cancel_left ..
  have up : ∀ {x}, 0 < x → x < m → p < p + x ∧ p + x < p + 1 + (n - (p + 1)) := fun h1 h2 => by omega
  have hb' : ∀ x y, x < m → y < m → S (p + x) (p + y) = e * M x y := fun x y hx hy => hb x y (pl hx) (pl hy)
  have hs : scanAll S p (n - p) (n - p) = some (p + I, p + J) := by
    rw [mn]
    refine scan_some hm hI hJ ?_ fun x y hx hy => ?_
    · rw [hb' I J hI hJ]; exact fun z => h0 ((zero_sg he).1 z)
    · rw [hb' I J hI hJ, hb' x y hx hy, kv_sg he, kv_sg he]
      exact fun hn => hl x y hx hy fun z => hn ((zero_sg he).2 z)
  have g1 : e * e' = 1 ∨ e * e' = -1 := by rcases he with rfl | rfl <;> rcases he' with rfl | rfl <;> simp
  have ee : e' * e' = 1 := by rcases he' with rfl | rfl <;> rfl
  have B : ∀ x y, x < m → y < m → brg S (p + I) (p + J) p (p + x) (p + y) = (e * e') * (e' * M (sw I x) (sw J y)) := fun x y hx hy => by
    show S (swp (p + I) p (p + x)) (swp (p + J) p (p + y)) = _
    rw [sw_swp, sw_swp, hb' _ _ (sw_lt hI hx) (sw_lt hJ hy)]
    rw [show e * e' * (e' * M (sw I x) (sw J y)) = e * (e' * e') * M (sw I x) (sw J y) by grind, ee]; simp
  have cb := Cln.brg (i := p + I) (j := p + J) hc (pl hI) (pl hJ) hpn (Nat.le_add_right _ _) (Nat.le_add_right _ _)
  have s00 : sw I 0 = I := by unfold sw; split <;> simp_all
  have s00' : sw J 0 = J := by unfold sw; split <;> simp_all
  -- the quotients
  have hrq : ∀ x, 0 < x → x < m → rowQ (brg S (p + I) (p + J) p) p (p + x) = q x := fun x h1 h2 => by
    unfold rowQ
    have b1 := B x 0 h2 m0
    have b2 := B 0 0 m0 m0
    rw [show p + 0 = p from rfl] at b1 b2
    rw [b1, b2]
    have := hx0 x h1 h2
    rw [hC x 0 h2 m0, hC 0 0 m0 m0] at this
    simp only [if_true, Nat.ne_of_gt h1, if_false, Int.zero_mul, Int.sub_zero] at this
    exact fdiv_sg g1 this
  have hcq : ∀ x, 0 < x → x < m → colQ (brg S (p + I) (p + J) p) p (p + x) = r x := fun x h1 h2 => by
    unfold colQ
    have b1 := B 0 x m0 h2
    have b2 := B 0 0 m0 m0
    rw [show p + 0 = p from rfl] at b1 b2
    rw [b1, b2]
    have := hy0 x h1 h2
    rw [hC 0 x m0 h2, hC 0 0 m0 m0] at this
    simp only [if_true, Nat.ne_of_gt h1, if_false, Int.zero_mul, Int.sub_zero] at this
    exact fdiv_sg g1 this
  have hR : ∀ x y, x < m → y < m → Mine.RP (brg S (p + I) (p + J) p) (brg S (p + I) (p + J) p) p (n - (p + 1)) (p + x) (p + y) = (e * e') * (e' * M (sw I x) (sw J y) - (if x = 0 then 0 else q x) * (e' * M (sw I 0) (sw J y))) := fun x y hx hy => by
    unfold Mine.RP
    have b0 := B 0 y m0 hy
    rw [show p + 0 = p from rfl] at b0
    by_cases h : x = 0
    · subst h; rw [if_neg fun z => Nat.lt_irrefl _ z.1, if_pos rfl, B 0 y hx hy, Int.zero_mul, Int.sub_zero]
    · rw [if_pos (up (Nat.pos_of_ne_zero h) hx), if_neg h, hrq x (Nat.pos_of_ne_zero h) hx, B x y hx hy, b0, Int.mul_sub (e * e'), Int.mul_left_comm (e * e') (q x)]
  have hK : ∀ x y, x < m → y < m → Mine.clr n (brg S (p + I) (p + J) p) p (p + x) (p + y) = (e * e') * C x y := fun x y hx hy => by
    show CP _ (Mine.RP _ _ p (n - (p + 1))) p (n - (p + 1)) (p + x) (p + y) = _
    unfold CP
    have b0 := hR x 0 hx m0
    rw [show p + 0 = p from rfl] at b0
    rw [hC x y hx hy]
    by_cases h : y = 0
    · subst h; rw [if_neg fun z => Nat.lt_irrefl _ z.1, if_pos rfl, hR x 0 hx hy, Int.zero_mul, Int.sub_zero]
    · rw [if_pos (up (Nat.pos_of_ne_zero h) hy), if_neg h, hcq y (Nat.pos_of_ne_zero h) hy, hR x y hx hy, b0, Int.mul_sub (e * e') _ (r y * _), Int.mul_left_comm (e * e') (r y)]
  have sm : ∀ x y, x < m → y < m → (brg S (p + I) (p + J) p (p + x) (p + y)).natAbs < 2 ^ 63 := fun x y hx hy => by
    rw [B x y hx hy, abs_sg g1, abs_sg he']
    exact small (bd _ _ (sw_lt hI hx) (sw_lt hJ hy))
  refine ⟨p + I, p + J, e * e', g1, hs, ⟨fun x hx => ?_, fun y hy => ?_⟩, cb.clr hpn, fun x y hx hy => hK x y (lp hx) (lp hy), ?_⟩
  · by_cases h : x < p
    · rw [cb x p hx hpn (Nat.ne_of_lt h) (.inl h)]; decide
    · obtain ⟨d, rfl⟩ := Nat.le.dest (Nat.le_of_not_lt h)
      exact sm d 0 (lp hx) m0
  · by_cases h : y < p
    · rw [cb p y hpn hy (Nat.ne_of_gt h) (.inr h)]; decide
    · obtain ⟨d, rfl⟩ := Nat.le.dest (Nat.le_of_not_lt h)
      exact sm 0 d m0 (lp hy)
  · have z1 : ∀ x, 0 < x → x < m → (Mine.clr n (brg S (p + I) (p + J) p) p (p + x) p = 0 ↔ C x 0 = 0) := fun x h1 h2 => by
      have := hK x 0 h2 m0
      rw [show p + 0 = p from rfl] at this
      rw [this]; exact zero_sg g1
    have z2 : ∀ x, 0 < x → x < m → (Mine.clr n (brg S (p + I) (p + J) p) p p (p + x) = 0 ↔ C 0 x = 0) := fun x h1 h2 => by
      have := hK 0 x m0 h2
      rw [show p + 0 = p from rfl] at this
      rw [this]; exact zero_sg g1
    constructor
    · intro hd
      exact ⟨fun x h1 h2 => (z1 x h1 h2).1 (isDone_col hd hpn (pl h2) (up h1 h2).1), fun x h1 h2 => (z2 x h1 h2).1 (isDone_row hd hpn (pl h2) (up h1 h2).1)⟩
    · intro zz0
      obtain ⟨a, b⟩ := zz0
      unfold isDone zrow zcol
      rw [Bool.and_eq_true, List.all_eq_true, List.all_eq_true]
      refine ⟨fun i hi => ?_, fun i hi => ?_⟩
      · have hi := List.mem_range.1 hi
        have h1 : 0 < 1 + i := by (with_reducible exact Nat.lt_of_lt_of_le (Nat.lt_succ_self _) (Nat.le_add_right _ _))
        have h2 : 1 + i < m := by omega
        have := (z1 (1 + i) h1 h2).2 (a (1 + i) h1 h2)
        rw [clr_col0 hpn (pl h2) (up h1 h2).1, ← Nat.add_assoc] at this
        rw [this]; rfl
      · have hi := List.mem_range.1 hi
        have h1 : 0 < 1 + i := by (with_reducible exact Nat.lt_of_lt_of_le (Nat.lt_succ_self _) (Nat.le_add_right _ _))
        have h2 : 1 + i < m := by omega
        have := (z2 (1 + i) h1 h2).2 (b (1 + i) h1 h2)
        rw [clr_row0 hpn (pl h2) (up h1 h2).1, ← Nat.add_assoc] at this
        rw [this]; rfl
theorem Ex.pass (hm : m ≤ 8) (hm0 : 0 < m) (hn : p + m = n) (bd : ∀ x y, x < m → y < m → -4096 ≤ M x y ∧ M x y ≤ 4096) (h : Clrd m M C) (hd : ¬ ((∀ x, 0 < x → x < m → C x 0 = 0) ∧ (∀ y, 0 < y → y < m → C 0 y = 0))) (hE : Ex n p C) : Ex n p M := by
  intro S e he hc hb
  obtain ⟨i, j, g, hg, h1, h2, h3, h4, h5⟩ := clr_blk hm hn bd h he hc hb
  obtain ⟨k, R, r⟩ := hE _ g hg h3 h4
  refine ⟨k + 1, R, .pass (by omega) h1 h2 ?_ r⟩
  cases hz : isDone n (brg S i j p) p with
  | false => rfl
  | true => exact absurd (h5.1 hz) hd
theorem dvd_sg {a b : Int} (he : e = 1 ∨ e = -1) : e * a ∣ e * b ↔ a ∣ b := by
  rcases he with rfl | rfl
  · simp
  · rw [Int.neg_one_mul, Int.neg_one_mul, Int.neg_dvd, Int.dvd_neg]
theorem undiv_iff {S : Nat → Nat → Int} {x k : Nat} : undiv S p k x = true ↔ ∃ j, j < k ∧ ¬ S p p ∣ S x (p + 1 + j) := by
  constructor
  · intro h
    apply Classical.byContradiction
    intro hn
    have : undiv S p k x = false := by
      unfold undiv
      simp only [Bool.not_eq_false', List.isEmpty_iff, List.filter_eq_nil_iff, List.mem_range]
      intro j hj
      have : S p p ∣ S x (p + 1 + j) := Classical.byContradiction fun z => hn ⟨j, hj, z⟩
      simp [Int.fmod_eq_zero_of_dvd this]
    rw [this] at h; cases h
  · intro zz0
    obtain ⟨j, hj, hn⟩ := zz0
    cases h : undiv S p k x with
    | true => rfl
    | false => exact absurd (undiv_false h j hj) hn
theorem firstU_is {S : Nat → Nat → Int} {k x : Nat} (hu : undiv S p k (p + 1 + x) = true) (hb : ∀ x', x' < x → undiv S p k (p + 1 + x') = false) : ∀ d, firstU S p k (x + 1 + d) = some (p + 1 + x) := by
  have h0 : ∀ y, y ≤ x → firstU S p k y = none := by
    intro y
    induction y with
    | zero => intro _; rfl
    | succ y ih =>
      intro hy
      show (firstU S p k y).or _ = none
      rw [ih (by (with_reducible exact Nat.le_trans (Nat.le_add_right _ _) (by assumption))), hb y (by (with_reducible exact Nat.lt_of_succ_le (by assumption)))]; rfl
  intro d
  refine firstU_some ?_ d
  show (firstU S p k x).or _ = _
  rw [h0 x (Nat.le_refl x), hu]; rfl
theorem firstU_nn {S : Nat → Nat → Int} {k : Nat} : ∀ {d}, (∀ x', x' < d → undiv S p k (p + 1 + x') = false) → firstU S p k d = none
  | 0, _ => rfl
  | d + 1, h => by
    show (firstU S p k d).or _ = none
    rw [firstU_nn (d := d) fun x hx => h x (by (with_reducible exact Nat.lt_succ_of_lt (by assumption))), h d (by (with_reducible exact Nat.lt_succ_self _))]; rfl
theorem sh1 (p a : Nat) : p + 1 + a = p + (a + 1) := by rw [Nat.add_assoc, Nat.add_comm 1 a]
theorem lt1 {j : Nat} (hn : p + m = n) (hm : 0 < m) : j < n - (p + 1) ↔ j + 1 < m := by omega
theorem und_blk {S : Nat → Nat → Int} {g : Int} (hg : g = 1 ∨ g = -1) (hn : p + m = n) (h4 : ∀ x y, p + x < n → p + y < n → S (p + x) (p + y) = g * C x y) {x : Nat} (hx : x + 1 < m) :
    undiv S p (n - (p + 1)) (p + 1 + x) = true ↔ ∃ y, y + 1 < m ∧ ¬ C 0 0 ∣ C (x + 1) (y + 1) := by
  have m0 : 0 < m := Nat.zero_lt_of_lt hx
  have pl : ∀ {a}, a < m → p + a < n := fun h => hn ▸ Nat.add_lt_add_left h p
  have e0 : S p p = g * C 0 0 := h4 0 0 (pl m0) (pl m0)
  have key : ∀ j, j + 1 < m → (S p p ∣ S (p + 1 + x) (p + 1 + j) ↔ C 0 0 ∣ C (x + 1) (j + 1)) := fun j hj => by
    rw [sh1, sh1, h4 _ _ (pl hx) (pl hj), e0]; exact dvd_sg hg
  rw [undiv_iff]
  exact ⟨fun ⟨j, hj, hd⟩ => ⟨j, (lt1 hn m0).1 hj, fun z => hd ((key j ((lt1 hn m0).1 hj)).2 z)⟩, fun ⟨j, hj, hd⟩ => ⟨j, (lt1 hn m0).2 hj, fun z => hd ((key j hj).1 z)⟩⟩
theorem Ex.add (hm : m ≤ 8) (hm0 : 0 < m) (hn : p + m = n) (bd : ∀ x y, x < m → y < m → -4096 ≤ M x y ∧ M x y ≤ 4096) (h : Clrd m M C) (hd : (∀ x, 0 < x → x < m → C x 0 = 0) ∧ (∀ y, 0 < y → y < m → C 0 y = 0)) {x : Nat} (hx : x + 1 < m)
    (hu : ∃ y, y + 1 < m ∧ ¬ C 0 0 ∣ C (x + 1) (y + 1)) (hf : ∀ x', x' < x → ¬ ∃ y, y + 1 < m ∧ ¬ C 0 0 ∣ C (x' + 1) (y + 1))
    (hE : Ex n p fun a b => if a = 0 then C 0 b + C (x + 1) b else C a b) : Ex n p M := by
  intro S e he hc hb
  obtain ⟨i, j, g, hg, h1, h2, h3, h4, h5⟩ := clr_blk hm hn bd h he hc hb
  have hfu : firstU (Mine.clr n (brg S i j p) p) p (n - (p + 1)) (n - (p + 1)) = some (p + 1 + x) := by
    have := firstU_is (S := Mine.clr n (brg S i j p) p) (p := p) (k := n - (p + 1)) (x := x) ((und_blk hg hn h4 hx).2 hu) (fun x' hx' => by
      cases hz : undiv (Mine.clr n (brg S i j p) p) p (n - (p + 1)) (p + 1 + x') with
      | false => rfl
      | true => exact absurd ((und_blk hg hn h4 (Nat.lt_trans (Nat.succ_lt_succ hx') hx)).1 hz) (hf x' hx')) (n - (p + 1) - (x + 1))
    rwa [Nat.add_sub_of_le ((lt1 hn hm0).2 hx)] at this
  obtain ⟨k, R, r⟩ := hE (Mine.addR (Mine.clr n (brg S i j p) p) (p + 1 + x) p) g hg (fun a b hA hB ne o => by
    unfold Mine.addR setF
    split
    · rename_i e; subst e; dsimp only; rw [h3 a b hA hB ne o, h3 (a + 1 + x) b (by rw [sh1, ← hn]; exact Nat.add_lt_add_left hx a) hB (by omega) (by omega)]; rfl
    · exact h3 a b hA hB ne o) (fun a b hA hB => by
    unfold Mine.addR setF
    have e0 := h4 0 b (by omega) hB
    rw [show p + 0 = p from rfl] at e0
    dsimp only
    by_cases h : a = 0
    · subst h; rw [if_pos (show p + 0 = p from rfl), if_pos rfl]; show Mine.clr n (brg S i j p) p p (p + b) + Mine.clr n (brg S i j p) p (p + 1 + x) (p + b) = _; rw [e0, show p + 1 + x = p + (x + 1) by omega, h4 _ _ (by omega) hB]; grind
    · rw [if_neg (by omega), if_neg h, h4 a b hA hB])
  exact ⟨k + 1, R, .add (by omega) h1 h2 (h5.2 hd) hfu r⟩
theorem Ex.next (hm : m ≤ 8) (hm0 : 0 < m) (hn : p + m = n) (bd : ∀ x y, x < m → y < m → -4096 ≤ M x y ∧ M x y ≤ 4096) (h : Clrd m M C) (hd : (∀ x, 0 < x → x < m → C x 0 = 0) ∧ (∀ y, 0 < y → y < m → C 0 y = 0))
    (hf : ∀ x', x' + 1 < m → ¬ ∃ y, y + 1 < m ∧ ¬ C 0 0 ∣ C (x' + 1) (y + 1)) (hE : Ex n (p + 1) fun a b => C (a + 1) (b + 1)) : Ex n p M := by
  intro S e he hc hb
  obtain ⟨i, j, g, hg, h1, h2, h3, h4, h5⟩ := clr_blk hm hn bd h he hc hb
  have hfu : firstU (Mine.clr n (brg S i j p) p) p (n - (p + 1)) (n - (p + 1)) = none := firstU_nn fun x' hx' => by
    cases hz : undiv (Mine.clr n (brg S i j p) p) p (n - (p + 1)) (p + 1 + x') with
    | false => rfl
    | true => exact absurd ((und_blk hg hn h4 (by omega)).1 hz) (hf x' (by omega))
  have dn := h5.2 hd
  have c1 : Cln n (p + 1) (Mine.clr n (brg S i j p) p) := fun a b hA hB ne o => by
    by_cases ho : a < p ∨ b < p
    · exact h3 a b hA hB ne ho
    · by_cases e1 : a = p
      · subst e1; exact isDone_row dn hA hB (by omega)
      · have e2 : b = p := by omega
        subst e2; exact isDone_col dn hB hA (by omega)
  obtain ⟨k, R, r⟩ := hE (if Mine.clr n (brg S i j p) p p p < 0 then Mine.negR (Mine.clr n (brg S i j p) p) p else Mine.clr n (brg S i j p) p) g hg (by
    split
    · intro a b hA hB ne o
      unfold Mine.negR setF
      split
      · rename_i e; subst e; dsimp only; rw [c1 a b hA hB ne o]; rfl
      · exact c1 a b hA hB ne o
    · exact c1) (fun a b hA hB => by
    have e0 := h4 (a + 1) (b + 1) (by omega) (by omega)
    rw [show p + (a + 1) = p + 1 + a by omega, show p + (b + 1) = p + 1 + b by omega] at e0
    split
    · unfold Mine.negR setF
      rw [if_neg (by omega)]; exact e0
    · exact e0)
  exact ⟨k + 1, R, .next (by omega) h1 h2 dn hfu r⟩
theorem Ex.zero (hm : m ≤ 8) (hm0 : 0 < m) (hn : p + m = n) (h : ∀ x y, x < m → y < m → M x y = 0) : Ex n p M := by
  intro S e he hc hb
  refine ⟨0, S, .zero (by omega) ?_ rfl⟩
  rw [show n - p = m by omega]
  exact scan_none hm fun x y hx hy => by rw [hb x y (by omega) (by omega), h x y hx hy]; simp
theorem Ex.fin (h : n ≤ p) : Ex n p M := fun S _ _ _ _ => ⟨0, S, .fin h rfl⟩
theorem Ex.congr {M' : Nat → Nat → Int} (h : Ex n p M) (e : ∀ x y, p + x < n → p + y < n → M x y = M' x y) : Ex n p M' := fun S g hg hc hb =>
  h S g hg hc fun x y hx hy => by rw [hb x y hx hy, e x y hx hy]
end
end En
end Mine
end
-- En9
section
set_option Elab.async false
set_option linter.unusedVariables false
set_option linter.unusedSimpArgs false
namespace Mine
namespace En
theorem bif_true {c : Bool} {a : Bool} (h : bif' c a false = true) : c = true ∧ a = true := by
  cases c with
  | true => exact ⟨rfl, h⟩
  | false => exact absurd h (by decide +revert)
/-- what the last stage of a round does in lane i -/
structure R6 (m : Nat) (pF pZ pa pF' : Nat → Bool) (V V' : Nat → Nat → Nat → Int) (i : Nat) : Prop where
  off : pa i = false → pF' i = (pF i || pZ i) ∧ ∀ x y, x < m + 1 → y < m + 1 → V' x y i = V x y i
  on : pa i = true → (pF' i = true ∧ (∀ x y, x < m + 1 → y < m + 1 → V' x y i = V x y i) ∧ ∀ x, x + 1 < m + 1 → ¬ ∃ y, y + 1 < m + 1 ∧ ¬ V 0 0 i ∣ V (x + 1) (y + 1) i) ∨
        (pF' i = (pF i || pZ i) ∧ ∃ x, x + 1 < m + 1 ∧ (∃ y, y + 1 < m + 1 ∧ ¬ V 0 0 i ∣ V (x + 1) (y + 1) i) ∧ (∀ x', x' < x → ¬ ∃ y, y + 1 < m + 1 ∧ ¬ V 0 0 i ∣ V (x' + 1) (y + 1) i) ∧
          ∀ a b, a < m + 1 → b < m + 1 → V' a b i = if a = 0 then V 0 b i + V (x + 1) b i else V a b i)
section
variable {N n m o h f F Z ad cm K KU : Nat} {X Y : List (List Nat)} {V : Nat → Nat → Nat → Int} {pF pZ pa : Nat → Bool} {k : Nat → List (List Nat) → Bool}
theorem rnd6_ok {cp : Nat → Bool} (c : Cs N o h f) (hKU : KU ≤ 11) (hF : Mk N F pF) (hZ : Mk N Z pZ) (ha : Mk N ad pa) (z : RX N X (m + 1) (m + 1) V) (lV : ∀ x y i, x < m + 1 → y < m + 1 → i < N → -4096 ≤ V x y i ∧ V x y i ≤ 4096)
    (hcm : Mk N cm cp) (hcp : ∀ i, cp i = true ↔ pa i = true ∧ 2 ≤ V 0 0 i) (h0 : ∀ i, i < N → 0 ≤ V 0 0 i) (h1 : ∀ i, i < N → pa i = true → 1 ≤ V 0 0 i) (e : rnd6 o h f F Z ad cm KU X k = true) :
    ∃ F' X' pF' V', k F' X' = true ∧ Mk N F' pF' ∧ RX N X' (m + 1) (m + 1) V' ∧ (∀ x y i, x < m + 1 → y < m + 1 → i < N → -4096 ≤ V' x y i ∧ V' x y i ≤ 4096) ∧ ∀ i, i < N → R6 m pF pZ pa pF' V V' i := by
  have hFZ := Mk.or hF hZ
  have one : ∀ i, i < N → pa i = true → ¬ cp i = true → ∀ z, V 0 0 i ∣ z := fun i hi hp hn z => by
    have l := h1 i hi hp
    have : ¬ 2 ≤ V 0 0 i := fun l2 => hn ((hcp i).2 ⟨hp, l2⟩)
    rw [show V 0 0 i = 1 by omega]; exact Int.one_dvd _
  unfold rnd6 at e
  cases e0 : Nat.beq cm 0 with
  | true =>
    rw [e0] at e
    have hz := beq_eq e0
    rw [hz] at hcm
    refine ⟨_, X, _, V, e, Mk.or hFZ ha, z, lV, fun i hi => ⟨fun h => ⟨by rw [h, Bool.or_false], fun _ _ _ _ => rfl⟩, fun h => .inl ⟨by rw [h, Bool.or_true], fun _ _ _ _ => rfl, fun x hx ⟨y, hy, hd⟩ => hd (one i hi h (fun z => by rw [hcm.none i hi] at z; cases z) _)⟩⟩⟩
  | false =>
    rw [e0] at e
    replace e : rnd7 o h f F Z ad cm KU X (mp (undRow o h cm (Nat.xor f cm) (Nat.sub (hdd (hdl X)) h) KU) (inner X)) k = true := e
    unfold rnd7 at e
    obtain ⟨e1, e⟩ := bif_true e
    have hd := z.hd (Nat.succ_pos _)
    have l00 : ∀ i, i < N → V 0 0 i ≤ 4096 := fun i hi => (lV 0 0 i (Nat.succ_pos _) (Nat.succ_pos _) hi).2
    have hL : U N (Nat.sub (hdd (hdl X)) h) (V 0 0) := lead_ok c (hd.hd (Nat.succ_pos _)) h0 l00
    have hin : RX N (inner X) m m fun x y => V (x + 1) (y + 1) := z.tl.map fun l x hx hl => hl.tl
    obtain ⟨Q, u1, u2⟩ := undRows_ok (ncm := Nat.xor f cm) c hKU hcm hL l00 hin (fun x y i hx hy hi => lV (x + 1) (y + 1) i (Nat.succ_lt_succ hx) (Nat.succ_lt_succ hy) hi)
    generalize hG : (fun x y i => (if cp i then V (x + 1) (y + 1) i else 0) - Q x y i * V 0 0 i) = G at u1
    have hGe : ∀ x y i, G x y i = (if cp i then V (x + 1) (y + 1) i else 0) - Q x y i * V 0 0 i := fun x y i => by rw [← hG]
    have u2 : ∀ x y i, x < m → y < m → i < N → -4096 ≤ G x y i ∧ G x y i ≤ 16777216 := fun x y i hx hy hi => by rw [hGe]; exact u2 x y i hx hy hi
    have rem : ∀ x y i, x < m → y < m → i < N → cp i = true → 0 ≤ G x y i ∧ G x y i < V 0 0 i := fun x y i hx hy hi hp => by
      have t1 := alls_get (allss_get e1 (x := x) (by rw [u1.1]; exact hx)) (y := y) (by rw [(u1.2 x hx).1]; exact hy)
      exact remOk_ok c t1 (Mk.not c hcm) hL l00 ((u1.2 x hx).2 y hy) (fun i hi => by have := u2 x y i hx hy hi; (with_reducible exact Mine.wk (by assumption) (by decide) (by decide))) i hi hp
    obtain ⟨g', a', p', A', t1, t2, t3, t4, t5⟩ := addAll_ok c hcm u1 z.tl c.f hd (fun x y i hx hy hi => by have := u2 x y i hx hy hi; (with_reducible exact Mine.wkl (by assumption) (by decide))) (fun x y i hx hy hi => lV (x + 1) y i (Nat.succ_lt_succ hx) hy hi)
      (fun y i hy hi _ => lV 0 y i (Nat.succ_pos _) hy hi) (fun y i hy hi => by have := lV 0 y i (Nat.succ_pos _) hy hi; (with_reducible exact Mine.wk (by assumption) (by decide) (by decide))) e
    obtain ⟨t1, t0⟩ := bif_true t1
    have b1 : ∀ y i, y < m + 1 → i < N → -4096 ≤ A' y i ∧ A' y i ≤ 4096 := fun y i hy hi => by
      have := rng_ok c (alls_get t1 (y := y) (by rw [t3.1]; exact hy)) (t3.2 y hy) (fun i hi => by have := t4 y i hy hi; (with_reducible exact Mine.wk (by assumption) (by decide) (by decide))) i hi
      (with_reducible exact Mine.wk (by assumption) (by decide) (by decide))
    refine ⟨_, _, _, fun x y i => if x = 0 then A' y i else V x y i, t0, Mk.or hFZ (Mk.and ha t2), RX.mk (t3.congr fun y i _ _ => by rw [if_pos rfl]) (z.tl.congr fun x y i _ _ _ => by rw [if_neg (Nat.succ_ne_zero _)]), fun x y i hx hy hi => ?_, fun i hi => ?_⟩
    · by_cases h : x = 0
      · simp only [if_pos h]; exact b1 y i hy hi
      · simp only [if_neg h]; exact lV x y i hx hy hi
    · have key : ∀ x, x < m → pa i = true → (Und cp G m x i ↔ ∃ y, y + 1 < m + 1 ∧ ¬ V 0 0 i ∣ V (x + 1) (y + 1) i) := fun x hx hp => by
        constructor
        · intro zz0
          obtain ⟨hc, y, hy, h⟩ := zz0
          refine ⟨y, Nat.succ_lt_succ hy, fun hd => ?_⟩
          have r := rem x y i hx hy hi hc
          have d2 : V 0 0 i ∣ G x y i := by rw [hGe, if_pos hc]; exact Int.dvd_sub hd (Int.dvd_mul_left _ _)
          have := Int.le_of_dvd h d2
          omega
        · intro zz0
          obtain ⟨y, hy, hd⟩ := zz0
          have hc : cp i = true := Classical.byContradiction fun hn => hd (one i hi hp hn _)
          refine ⟨hc, y, Nat.lt_of_succ_lt_succ hy, ?_⟩
          have r := rem x y i hx (Nat.lt_of_succ_lt_succ hy) hi hc
          refine Classical.byContradiction fun hn => hd ⟨Q x y i, ?_⟩
          have e := hGe x y i
          rw [if_pos hc] at e
          rw [Int.mul_comm]; omega
      have same : (∀ y, y < m + 1 → A' y i = V 0 y i) → ∀ x y, x < m + 1 → y < m + 1 → (if x = 0 then A' y i else V x y i) = V x y i := fun e x y hx hy => by
        by_cases h : x = 0
        · subst h; rw [if_pos rfl]; exact e y hy
        · rw [if_neg h]
      have q2 := (t5 i hi).on rfl
      refine ⟨fun hp => ?_, fun hp => ?_⟩
      · rcases q2 with ⟨r1, r2, r3⟩ | ⟨r1, x, hx, r2, _⟩
        · exact ⟨by rw [hp, Bool.false_and, Bool.or_false], same r3⟩
        · exact absurd ((hcp i).1 r2.1).1 (by rw [hp]; exact Bool.false_ne_true)
      · rcases q2 with ⟨r1, r2, r3⟩ | ⟨r1, x, hx, r2, r3, r4⟩
        · exact .inl ⟨by rw [hp, r1]; exact Bool.or_true _, same r3, fun x hx hu => r2 x (Nat.lt_of_succ_lt_succ hx) ((key x (Nat.lt_of_succ_lt_succ hx) hp).2 hu)⟩
        · refine .inr ⟨by rw [r1, Bool.and_false, Bool.or_false], x, Nat.succ_lt_succ hx, (key x hx hp).1 r2, fun x' hx' hu => r3 x' hx' ((key x' (Nat.lt_trans hx' hx) hp).2 hu), fun a b ha hb => ?_⟩
          by_cases h : a = 0
          · simp only [if_pos h]; exact r4 b hb
          · simp only [if_neg h]
end
end En
end Mine
end
-- En10
section
set_option Elab.async false
set_option linter.unusedVariables false
set_option linter.unusedSimpArgs false
namespace Mine
namespace En
section
variable {N n p m o h f F K KU : Nat} {X : List (List Nat)} {V : Nat → Nat → Nat → Int} {pF : Nat → Bool} {k : Nat → List (List Nat) → Bool}
theorem kv_low {v : Int} {c : Nat} (h0 : 0 ≤ kv v c) (hc : c < 64) : (kv v c).toNat % 64 = c := by
  unfold kv at *
  split at * <;> omega
theorem up1 {P : Nat → Prop} (h : ∀ x, x < m → P (x + 1)) : ∀ x, 0 < x → x < m + 1 → P x
  | 0, h1, _ => absurd h1 (Nat.lt_irrefl 0)
  | x + 1, _, h2 => h x (Nat.lt_of_succ_lt_succ h2)
theorem rnd_ok (c : Cs N o h f) (hn : p + (m + 1) = n) (hm : m ≤ 6) (hK : K ≤ 10) (hKU : KU ≤ 11) (hF : Mk N F pF) (z : RX N X (m + 1) (m + 1) V) (lV : ∀ x y i, x < m + 1 → y < m + 1 → i < N → -4096 ≤ V x y i ∧ V x y i ≤ 4096)
    (hF0 : ∀ i, i < N → pF i = true → 0 ≤ V 0 0 i) (e : rnd o h f F K KU X k = true) :
    ∃ F' X' pF' V', k F' X' = true ∧ Mk N F' pF' ∧ RX N X' (m + 1) (m + 1) V' ∧ (∀ x y i, x < m + 1 → y < m + 1 → i < N → -4096 ≤ V' x y i ∧ V' x y i ≤ 4096) ∧ ∀ i, i < N →
      (pF' i = true → 0 ≤ V' 0 0 i) ∧ (pF i = true → pF' i = true ∧ ∀ x y, x < m + 1 → y < m + 1 → V' x y i = V x y i) ∧
      (pF i = false → (pF' i = true → Ex n (p + 1) (fun x y => V' (x + 1) (y + 1) i) → Ex n p fun x y => V x y i) ∧ (pF' i = false → Ex n p (fun x y => V' x y i) → Ex n p fun x y => V x y i)) := by
  -- the least key
  obtain ⟨κ, k1, k2⟩ := mkAll_ok (m := m + 1) c (by (with_reducible exact Nat.le_trans (Nat.succ_le_succ (by assumption)) (by decide))) (c := 0) z lV (by omega) (c.o.con' (k := 33554431) (by decide)) (fun i _ => by decide)
  have kl : ∀ i, i < N → 0 ≤ κ i ∧ κ i < 524288 := fun i hi => by
    have := (k2 i hi).2.2.1 0 0 (by (with_reducible exact Nat.succ_pos _)) (by (with_reducible exact Nat.succ_pos _))
    have := kv_rng (c := 0 + (8 * 0 + 0)) (lV 0 0 i (by (with_reducible exact Nat.succ_pos _)) (by (with_reducible exact Nat.succ_pos _)) hi) (by decide)
    have := k1.rng i hi
    omega
  have ka : ∀ i, i < N → ∃ x y, x < m + 1 ∧ y < m + 1 ∧ κ i = kv (V x y i) (8 * x + y) := fun i hi => by
    have := kl i hi
    rcases (k2 i hi).2.2.2 with h | ⟨x, y, hx, hy, h⟩
    · omega
    · exact ⟨x, y, hx, hy, by rw [h, show 0 + (8 * x + y) = 8 * x + y by (with_reducible exact Nat.zero_add _)]⟩
  have km : ∀ i x y, i < N → x < m + 1 → y < m + 1 → κ i ≤ kv (V x y i) (8 * x + y) := fun i x y hi hx hy => by
    have := (k2 i hi).2.2.1 x y hx hy
    rwa [show 0 + (8 * x + y) = 8 * x + y by (with_reducible exact Nat.zero_add _)] at this
  -- the lanes that are all zero
  have hZ : Mk N (ge o (Nat.sub (Nat.add (mkAll o h X 0 (Nat.mul 33554431 o)) h) (Nat.mul 524224 o))) fun i => decide (524224 ≤ κ i) := by
    have r : R N (Nat.sub (Nat.add (mkAll o h X 0 (Nat.mul 33554431 o)) h) (Nat.mul 524224 o)) fun i => κ i - 524224 := by
      refine Mine.En.V.r (Mine.En.V.sub (Mine.En.V.add k1.val c.h.val) (c.o.con' (k := 524224) (by decide)).val fun i hi => ?_) fun i hi => ?_
      all_goals have := kl i hi; omega
    exact (geR c r).congr fun i _ => by congr 1; apply propext; omega
  unfold rnd rnd1 at e
  generalize (ge o (Nat.sub (Nat.add (mkAll o h X 0 (Nat.mul 33554431 o)) h) (Nat.mul 524224 o))) = Z at e hZ
  have hA := Mk.not c (Mk.or hF hZ)
  generalize Nat.xor f (Nat.lor F Z) = ac at e hA
  generalize hpa : (fun i => !(pF i || decide (524224 ≤ κ i))) = pa at hA
  have pa1 : ∀ i, pa i = true ↔ pF i = false ∧ κ i < 524224 := fun i => by
    rw [← hpa]; simp
  have pa0 : ∀ i, pa i = false ↔ pF i = true ∨ 524224 ≤ κ i := fun i => by
    rw [← hpa]; simp only [Bool.not_eq_false', Bool.or_eq_true, decide_eq_true_eq]
  -- its place
  have hp : U N (Nat.land (Nat.land (mkAll o h X 0 (Nat.mul 33554431 o)) (Nat.mul 63 o)) ac) fun i => ((if pa i then (κ i).toNat % 64 else 0 : Nat) : Int) :=
    (U.land (k1.low (j := 6) (by decide) (c.o.con' (k := 63) (by decide))) hA).congr fun i _ => by split <;> rfl
  generalize Nat.land (Nat.land (mkAll o h X 0 (Nat.mul 33554431 o)) (Nat.mul 63 o)) ac = ps at e hp
  have pl : ∀ i, (if pa i then (κ i).toNat % 64 else 0) < 64 := fun i => by split <;> omega
  have hI : U N (Nat.land (Nat.shiftRight ps 3) (Nat.mul 7 o)) fun i => (((if pa i then (κ i).toNat % 64 else 0) / 8 : Nat) : Int) :=
    (hp.shr (k := 3) (m := 7) (by decide) (by decide) (c.o.con' (k := 7) (by decide)) (fun i hi => by have := pl i; omega) ⟨3, rfl⟩).congr fun i _ => by rw [Int.toNat_natCast]
  have hJ : U N (Nat.land ps (Nat.mul 7 o)) fun i => (((if pa i then (κ i).toNat % 64 else 0) % 8 : Nat) : Int) :=
    (hp.low (j := 3) (by decide) (c.o.con' (k := 7) (by decide))).congr fun i _ => by rw [Int.toNat_natCast]
  generalize hIe : (fun i => (if pa i then (κ i).toNat % 64 else 0) / 8) = I at hI
  generalize hJe : (fun i => (if pa i then (κ i).toNat % 64 else 0) % 8) = J at hJ
  have hI' : U N (Nat.land (Nat.shiftRight ps 3) (Nat.mul 7 o)) fun i => (I i : Int) := hI.congr fun i _ => by rw [← hIe]
  have hJ' : U N (Nat.land ps (Nat.mul 7 o)) fun i => (J i : Int) := hJ.congr fun i _ => by rw [← hJe]
  have off : ∀ i, pa i = false → I i = 0 ∧ J i = 0 := fun i h => by rw [← hIe, ← hJe]; simp [h]
  have at1 : ∀ i, i < N → pa i = true → I i < m + 1 ∧ J i < m + 1 ∧ κ i = kv (V (I i) (J i) i) (8 * I i + J i) := fun i hi h => by
    obtain ⟨x, y, hx, hy, hk⟩ := ka i hi
    have := kl i hi
    have l : (κ i).toNat % 64 = 8 * x + y := by rw [hk]; exact kv_low (by rw [← hk]; (with_reducible exact And.left (by assumption))) (by omega)
    have e1 : I i = x := by rw [← hIe]; simp only [h, if_true, l]; omega
    have e2 : J i = y := by rw [← hJe]; simp only [h, if_true, l]; omega
    rw [e1, e2]; exact ⟨hx, hy, hk⟩
  have lI : ∀ i, i < N → I i < m + 1 := fun i hi => by
    cases h : pa i with
    | true => exact (at1 i hi h).1
    | false => rw [(off i h).1]; (with_reducible exact Nat.succ_pos _)
  have lJ : ∀ i, i < N → J i < m + 1 := fun i hi => by
    cases h : pa i with
    | true => exact (at1 i hi h).2.1
    | false => rw [(off i h).2]; (with_reducible exact Nat.succ_pos _)
  -- brought
  unfold rnd2 rnd3 at e
  have z2 := (bring_ok c (by (with_reducible exact Nat.le_trans (Nat.succ_le_succ (by assumption)) (by decide))) (bring_ok c (by (with_reducible exact Nat.le_trans (Nat.succ_le_succ (by assumption)) (by decide))) z (by (with_reducible exact Nat.le_trans (by assumption) (by decide))) hI' lI).tr (by (with_reducible exact Nat.le_trans (by assumption) (by decide))) hJ' lJ).tr
  generalize tr (bring o h (Nat.land ps (Nat.mul 7 o)) (tr (bring o h (Nat.land (Nat.shiftRight ps 3) (Nat.mul 7 o)) X))) = X2 at e z2
  have z2 : RX N X2 (m + 1) (m + 1) fun x y i => V (sw (I i) x) (sw (J i) y) i := z2
  have l2 : ∀ x y i, x < m + 1 → y < m + 1 → i < N → -4096 ≤ V (sw (I i) x) (sw (J i) y) i ∧ V (sw (I i) x) (sw (J i) y) i ≤ 4096 := fun x y i hx hy hi => lV _ _ i (sw_lt (lI i hi) hx) (sw_lt (lJ i hi) hy) hi
  have hN := Mk.and (Mk.not c (geR c ((z2.hd (by (with_reducible exact Nat.succ_pos _))).hd (by (with_reducible exact Nat.succ_pos _))))) hA
  generalize hge : (fun i => if (!decide (0 ≤ V (sw (I i) 0) (sw (J i) 0) i) && pa i) = true then (-1 : Int) else 1) = g
  have gg : ∀ i, g i = 1 ∨ g i = -1 := fun i => by rw [← hge]; dsimp only; split <;> simp
  have g0 : ∀ i, pa i = false → g i = 1 := fun i h => by rw [← hge]; simp [h]
  have z3 : RX N (neg o (Nat.land (Nat.xor f (ge o (hdd (hdl X2)))) ac) X2) (m + 1) (m + 1) fun x y i => g i * V (sw (I i) x) (sw (J i) y) i :=
    (neg_ok c hN z2 fun x y i hx hy hi => by have := l2 x y i hx hy hi; (with_reducible exact Mine.wkl (by assumption) (by decide))).congr fun x y i _ _ _ => by rw [← hge]; dsimp only; split <;> simp
  generalize neg o (Nat.land (Nat.xor f (ge o (hdd (hdl X2)))) ac) X2 = X3 at e z3
  generalize hBe : (fun x y i => g i * V (sw (I i) x) (sw (J i) y) i) = B at z3
  have hB : ∀ x y i, B x y i = g i * V (sw (I i) x) (sw (J i) y) i := fun x y i => by rw [← hBe]
  have l3 : ∀ x y i, x < m + 1 → y < m + 1 → i < N → -4096 ≤ B x y i ∧ B x y i ≤ 4096 := fun x y i hx hy hi => by
    have := l2 x y i hx hy hi
    rw [hB]
    rcases gg i with h | h <;> rw [h] <;> omega
  have s0 : ∀ a, sw a 0 = a := fun a => by unfold sw; split <;> simp_all
  have sz : ∀ x, sw 0 x = x := fun x => by unfold sw; split <;> simp_all
  have pz : ∀ i, i < N → 524224 ≤ κ i → ∀ x y, x < m + 1 → y < m + 1 → V x y i = 0 := fun i hi h x y hx hy => by
    have := km i x y hi hx hy
    exact (kv_rng (c := 8 * x + y) (lV x y i hx hy hi) (by omega)).2.2.2 (Int.le_trans h this)
  have b00 : ∀ i, B 0 0 i = g i * V (I i) (J i) i := fun i => by rw [hB, s0, s0]
  have lead : ∀ i, i < N → pa i = true → 0 < B 0 0 i ∧ V (I i) (J i) i ≠ 0 := fun i hi h => by
    obtain ⟨h1, h2, h3⟩ := at1 i hi h
    have h4 := (pa1 i).1 h
    have h5 : V (I i) (J i) i ≠ 0 := fun hz => by
      have := (kv_rng (c := 8 * I i + J i) (lV _ _ i h1 h2 hi) (by omega)).2.2.1 hz
      omega
    refine ⟨?_, h5⟩
    rw [b00, ← hge]
    dsimp only
    rw [h, s0, s0]
    by_cases h6 : 0 ≤ V (I i) (J i) i
    · simp [h6]; omega
    · simp [h6]; (with_reducible exact Int.lt_of_not_ge (by assumption))
  have lead0 : ∀ i, i < N → 0 ≤ B 0 0 i := fun i hi => by
    cases h : pa i with
    | true => exact Int.le_of_lt (lead i hi h).1
    | false =>
      rw [b00, g0 i h, (off i h).1, (off i h).2, Int.one_mul]
      rcases (pa0 i).1 h with h1 | h1
      · exact hF0 i hi h1
      · rw [pz i hi h1 0 0 (by (with_reducible exact Nat.succ_pos _)) (by (with_reducible exact Nat.succ_pos _))]; decide
  clear hge hN z2 l2 hI hJ hI' hJ' hp pl lI lJ
  -- the rows cleared
  have hp2 : 2 ^ (K + 1) ≤ 2 ^ 11 := Nat.pow_le_pow_right (by decide) (by (with_reducible exact Nat.succ_le_succ (by assumption)))
  have hpn := Int.natCast_nonneg (2 ^ (K + 1))
  obtain ⟨Q, z4, q4, l4⟩ := clr_ok (K := K) (D := 4096) c hA (by (with_reducible exact Nat.succ_pos _)) hK (by decide) (by omega) z3 (fun y i hy hi => l3 0 y i (by (with_reducible exact Nat.succ_pos _)) hy hi) lead0 (fun x y i hx hy hi => l3 (x + 1) y i (by (with_reducible exact Nat.succ_lt_succ (by assumption))) hy hi)
  unfold rnd4 at e
  obtain ⟨e1, e⟩ := bif_true e
  generalize clr o h f ac K X3 = X4 at e e1 z4
  generalize hDe : (fun x y i => B x y i - (if x = 0 then 0 else Q x i) * B 0 y i) = D at z4
  have hD4 : ∀ x y i, D x y i = B x y i - (if x = 0 then 0 else Q x i) * B 0 y i := fun x y i => by rw [← hDe]
  have d0 : ∀ y i, D 0 y i = B 0 y i := fun y i => by rw [hD4]; simp
  have d1 : ∀ x y i, D (x + 1) y i = B (x + 1) y i - Q (x + 1) i * B 0 y i := fun x y i => by rw [hD4]; simp
  have l4 : ∀ x y i, x < m + 1 → y < m + 1 → i < N → -(4096 + 4096 * ((2 ^ (K + 1) : Nat) : Int)) ≤ D x y i ∧ D x y i ≤ 4096 + 4096 * ((2 ^ (K + 1) : Nat) : Int) := fun x y i hx hy hi => by
    cases x with
    | zero => have := l3 0 y i (by (with_reducible assumption)) hy hi; rw [d0]; omega
    | succ x => rw [d1]; exact l4 x y i (by (with_reducible exact Nat.lt_of_succ_lt_succ (by assumption))) hy hi
  have hL4 : U N (Nat.sub (hdd (hdl X4)) h) (D 0 0) := lead_ok c ((z4.hd (Nat.succ_pos _)).hd (Nat.succ_pos _)) (fun i hi => by rw [d0]; exact lead0 i hi) fun i hi => by rw [d0]; exact (l3 0 0 i (Nat.succ_pos _) (Nat.succ_pos _) hi).2
  have r1 : ∀ x i, x < m → i < N → pa i = true → 0 ≤ D (x + 1) 0 i ∧ D (x + 1) 0 i < B 0 0 i := fun x i hx hi h => by
    have hh := z4.tl.hds (by (with_reducible exact Nat.succ_pos _))
    have := remOk_ok c (alls_get e1 (y := x) (by rw [hh.1]; exact hx)) (Mk.not c hA) hL4 (fun i hi => by rw [d0]; exact (l3 0 0 i (by (with_reducible exact Nat.succ_pos _)) (by (with_reducible exact Nat.succ_pos _)) hi).2) (hh.2 x hx) (fun i hi => by
      have := l4 (x + 1) 0 i (by (with_reducible exact Nat.succ_lt_succ (by assumption))) (by (with_reducible exact Nat.succ_pos _)) hi
      dsimp only
      omega) i hi h
    rwa [d0] at this
  -- the columns
  have lc : ∀ y i, y < m + 1 → i < N → -4096 ≤ D y 0 i ∧ D y 0 i ≤ 4096 := fun y i hy hi => by
    have a := l3 y 0 i hy (by (with_reducible exact Nat.succ_pos _)) hi
    have b := l3 0 0 i (by (with_reducible exact Nat.succ_pos _)) (by (with_reducible exact Nat.succ_pos _)) hi
    cases y with
    | zero => rw [d0]; exact a
    | succ y =>
      cases h : pa i with
      | true => have := r1 y i (by (with_reducible exact Nat.lt_of_succ_lt_succ (by assumption))) hi h; omega
      | false => rw [d1, q4 (y + 1) i hi h, Int.zero_mul, Int.sub_zero]; exact a
  obtain ⟨T, z5, q5, l5⟩ := clr_ok (K := K) (D := 4096 + 4096 * (2 ^ (K + 1) : Nat)) c hA (by (with_reducible exact Nat.succ_pos _)) hK (by omega) (by omega) z4.tr (fun y i hy hi => lc y i hy hi) (fun i hi => by rw [d0]; exact lead0 i hi)
    (fun x y i hx hy hi => l4 y (x + 1) i hy (by (with_reducible exact Nat.succ_lt_succ (by assumption))) hi)
  unfold rnd5 at e
  obtain ⟨e2, e⟩ := bif_true e
  obtain ⟨e3, e⟩ := bif_true e
  generalize clr o h f ac K (tr X4) = Y at e e2 e3 z5
  have z6 := z5.tr
  generalize tr Y = X5 at e e3 z6
  -- the matrix after it
  generalize hC : (fun x y i => D x y i - (if y = 0 then 0 else T y i) * D x 0 i) = C
  have hCe : ∀ x y i, C x y i = D x y i - (if y = 0 then 0 else T y i) * D x 0 i := fun x y i => by rw [← hC]
  have z6 : RX N X5 (m + 1) (m + 1) C := z6.congr fun x y i _ _ _ => by rw [hCe]
  have z5 : RX N Y (m + 1) (m + 1) fun y x i => C x y i := z5.congr fun x y i _ _ _ => by rw [hCe]
  have cx : ∀ x i, C x 0 i = D x 0 i := fun x i => by rw [hCe]; simp
  have c00 : ∀ i, C 0 0 i = B 0 0 i := fun i => by rw [cx, d0]
  have lC : ∀ x y i, x < m + 1 → y < m + 1 → i < N → -4096 ≤ C x y i ∧ C x y i ≤ 4096 := fun x y i hx hy hi => by
    have t1 := alls_get (allss_get e3 (x := x) (by rw [z6.1]; exact hx)) (y := y) (by rw [(z6.2 x hx).1]; exact hy)
    have := rng_ok c t1 ((z6.2 x hx).2 y hy) (fun i hi => by
      cases y with
      | zero => have := lc x i hx hi; rw [cx]; (with_reducible exact Mine.wk (by assumption) (by decide) (by decide))
      | succ y =>
        have := l5 y x i (by (with_reducible exact Nat.lt_of_succ_lt_succ (by assumption))) hx hi
        rw [hCe]; simp only [Nat.add_one_ne_zero, if_false]; omega) i hi
    (with_reducible exact Mine.wk (by assumption) (by decide) (by decide))
  have hL5 : U N (Nat.sub (hdd (hdl Y)) h) (C 0 0) := lead_ok c ((z5.hd (Nat.succ_pos _)).hd (Nat.succ_pos _)) (fun i hi => by rw [c00]; exact lead0 i hi) fun i hi => (lC 0 0 i (Nat.succ_pos _) (Nat.succ_pos _) hi).2
  have r0 : ∀ x i, x < m → i < N → pa i = true → 0 ≤ C (x + 1) 0 i ∧ C (x + 1) 0 i < C 0 0 i := fun x i hx hi h => by
    rw [cx, c00]; exact r1 x i hx hi h
  have r2 : ∀ y i, y < m → i < N → pa i = true → 0 ≤ C 0 (y + 1) i ∧ C 0 (y + 1) i < C 0 0 i := fun y i hy hi h => by
    have hh := z5.tl.hds (by (with_reducible exact Nat.succ_pos _))
    exact remOk_ok c (alls_get e2 (y := y) (by rw [hh.1]; exact hy)) (Mk.not c hA) hL5 (fun i hi => (lC 0 0 i (by (with_reducible exact Nat.succ_pos _)) (by (with_reducible exact Nat.succ_pos _)) hi).2) (hh.2 y hy) (fun i hi => by
      have := lC 0 (y + 1) i (by (with_reducible exact Nat.succ_pos _)) (by (with_reducible exact Nat.succ_lt_succ (by assumption))) hi; dsimp only; (with_reducible exact Mine.wk (by assumption) (by decide) (by decide))) i hi h
  -- what is done
  have hz : R N h fun _ => (0 : Int) := U.congr c.h fun i _ => by simp
  obtain ⟨τ₁, t1, t2, t3⟩ := sumr_ok (D := 0) c (z5.tl.hds (by (with_reducible exact Nat.succ_pos _))) hz (fun y i hy hi => lC 0 (y + 1) i (by (with_reducible exact Nat.succ_pos _)) (by (with_reducible exact Nat.succ_lt_succ (by assumption))) hi) (fun i _ => ⟨by simp, by simp⟩) (by omega)
  obtain ⟨τ, u1, u2, u3⟩ := sumr_ok (D := 4096 * m) c (z6.tl.hds (by (with_reducible exact Nat.succ_pos _))) t1 (fun x i hx hi => lC (x + 1) 0 i (by (with_reducible exact Nat.succ_lt_succ (by assumption))) (by (with_reducible exact Nat.succ_pos _)) hi) (fun i hi => by have := t2 i hi; omega) (by omega)
  have hD := Mk.not c (nzp_ok c u1 fun i hi => by have := u2 i hi; omega)
  have hAD : Mk N (Nat.land ac (dn o h f X5 Y)) fun i => pa i && !decide (1 ≤ τ i) := Mk.and hA hD
  have done : ∀ i, i < N → pa i = true → ((!decide (1 ≤ τ i)) = true ↔ (∀ x, 0 < x → x < m + 1 → C x 0 i = 0) ∧ ∀ y, 0 < y → y < m + 1 → C 0 y i = 0) := fun i hi h => by
    have a1 := t3 i hi (show (0 : Int) ≤ 0 by decide) (fun y hy => (r2 y i hy hi h).1)
    have a2 := u3 i hi a1.1 (fun x hx => (r0 x i hx hi h).1)
    have : (!decide (1 ≤ τ i)) = true ↔ τ i < 1 := by simp
    rw [this, a2.2, a1.2]
    constructor
    · intro zz0
      obtain ⟨⟨_, b⟩, a⟩ := zz0
      exact ⟨up1 (P := fun x => C x 0 i = 0) a, up1 (P := fun y => C 0 y i = 0) b⟩
    · intro zz0
      obtain ⟨a, b⟩ := zz0
      exact ⟨⟨by decide, fun y hy => b (y + 1) (by (with_reducible exact Nat.succ_pos _)) (by (with_reducible exact Nat.succ_lt_succ (by assumption)))⟩, fun x hx => a (x + 1) (by (with_reducible exact Nat.succ_pos _)) (by (with_reducible exact Nat.succ_lt_succ (by assumption)))⟩
  have hG2 : Mk N (ge2 o X5) fun i => decide (2 ≤ C 0 0 i) := by
    have r : R N (Nat.sub (hdd (hdl X5)) (Nat.mul 2 o)) fun i => C 0 0 i - 2 := by
      refine Mine.En.V.r (Mine.En.V.sub ((z6.hd (by (with_reducible exact Nat.succ_pos _))).hd (by (with_reducible exact Nat.succ_pos _))).val (c.o.con' (k := 2) (by decide)).val fun i hi => ?_) fun i hi => ?_
      all_goals have := lC 0 0 i (by (with_reducible exact Nat.succ_pos _)) (by (with_reducible exact Nat.succ_pos _)) hi; omega
    exact (geR c r).congr fun i _ => by congr 1; apply propext; omega
  obtain ⟨F', X', pF', V', v1, v2, v3, v4, v5⟩ := rnd6_ok c hKU hF hZ hAD z6 lC (Mk.and hAD hG2) (fun i => by rw [Bool.and_eq_true, decide_eq_true_eq]) (fun i hi => by rw [c00]; exact lead0 i hi) (fun i hi h => by
    have : pa i = true := by
      cases hh : pa i with
      | true => rfl
      | false => rw [hh] at h; simp at h
    have := (lead i hi this).1; rw [c00]; omega) e
  refine ⟨F', X', pF', V', v1, v2, v3, v4, fun i hi => ?_⟩
  obtain ⟨w1, w2⟩ := v5 i hi
  have cV : pa i = false → ∀ x y, x < m + 1 → y < m + 1 → C x y i = V x y i := fun h x y hx hy => by
    rw [hCe, hD4, hD4, hB, (off i h).1, (off i h).2, g0 i h, q4 x i hi h, q5 y i hi h, sz, sz]; simp
  have cl : pa i = true → Clrd (m + 1) (fun x y => V x y i) (fun x y => C x y i) := fun h => by
    obtain ⟨a1, a2, a3⟩ := at1 i hi h
    obtain ⟨b1, b2⟩ := lead i hi h
    refine ⟨I i, J i, g i, fun x => Q x i, fun y => T y i, a1, a2, gg i, b2, fun x y hx hy _ => by rw [← a3]; exact km i x y hi hx hy, ?_, ?_, fun x y hx hy => by dsimp only; rw [hCe, hD4, hD4, hB, hB, hB, hB], up1 (P := fun x => 0 ≤ C x 0 i ∧ C x 0 i < C 0 0 i) fun x hx => r0 x i hx hi h, up1 (P := fun y => 0 ≤ C 0 y i ∧ C 0 y i < C 0 0 i) fun y hy => r2 y i hy hi h⟩
    · show C 0 0 i = _; rw [c00, b00]
    · show 0 < C 0 0 i; rw [c00]; exact b1
  have bV : ∀ x y, x < m + 1 → y < m + 1 → -4096 ≤ V x y i ∧ V x y i ≤ 4096 := fun x y hx hy => lV x y i hx hy hi
  cases h : pa i with
  | false =>
    obtain ⟨x1, x2⟩ := w1 (by rw [h]; rfl)
    have eV : ∀ x y, x < m + 1 → y < m + 1 → V' x y i = V x y i := fun x y hx hy => by rw [x2 x y hx hy, cV h x y hx hy]
    have ht : pF' i = true := by
      rw [x1]; rcases (pa0 i).1 h with h1 | h1
      · rw [h1]; rfl
      · simp [h1]
    refine ⟨fun _ => ?_, fun _ => ⟨ht, eV⟩, fun hf => ⟨fun _ _ => ?_, fun hh => absurd (ht.symm.trans hh) (by simp)⟩⟩
    · rw [x2 0 0 (by (with_reducible exact Nat.succ_pos _)) (by (with_reducible exact Nat.succ_pos _)), c00]; exact lead0 i hi
    · rcases (pa0 i).1 h with h1 | h1
      · rw [hf] at h1; cases h1
      · exact Ex.zero (m := m + 1) (by (with_reducible exact Nat.le_trans (Nat.succ_le_succ (by assumption)) (by decide))) (by (with_reducible exact Nat.succ_pos _)) hn fun x y hx hy => pz i hi h1 x y hx hy
  | true =>
    have hpf := ((pa1 i).1 h).1
    have hk := ((pa1 i).1 h).2
    have hor : (pF i || decide (524224 ≤ κ i)) = false := by rw [hpf]; simp; (with_reducible assumption)
    cases hd : (!decide (1 ≤ τ i)) with
    | false =>
      obtain ⟨x1, x2⟩ := w1 (by rw [hd]; simp)
      rw [hor] at x1
      refine ⟨fun hh => absurd (x1.symm.trans hh) (by simp), fun hh => absurd (hpf.symm.trans hh) (by simp), fun _ => ⟨fun hh => absurd (x1.symm.trans hh) (by simp), fun _ hE => ?_⟩⟩
      refine Ex.pass (m := m + 1) (by (with_reducible exact Nat.le_trans (Nat.succ_le_succ (by assumption)) (by decide))) (by (with_reducible exact Nat.succ_pos _)) hn bV (cl h) (fun hh => ?_) (hE.congr fun x y hx hy => x2 x y (by omega) (by omega))
      rw [(done i hi h).2 hh] at hd; cases hd
    | true =>
      have dd := (done i hi h).1 hd
      rcases w2 (by rw [h, hd]; rfl) with ⟨x1, x2, x3⟩ | ⟨x1, x, hx, x2, x3, x4⟩
      · refine ⟨fun _ => by rw [x2 0 0 (by (with_reducible exact Nat.succ_pos _)) (by (with_reducible exact Nat.succ_pos _)), c00]; exact lead0 i hi, fun hh => absurd (hpf.symm.trans hh) (by simp), fun _ => ⟨fun _ hE => ?_, fun hh => absurd (x1.symm.trans hh) (by simp)⟩⟩
        exact Ex.next (m := m + 1) (by (with_reducible exact Nat.le_trans (Nat.succ_le_succ (by assumption)) (by decide))) (by (with_reducible exact Nat.succ_pos _)) hn bV (cl h) dd x3 (hE.congr fun x y hx hy => x2 (x + 1) (y + 1) (by omega) (by omega))
      · rw [hor] at x1
        refine ⟨fun hh => absurd (x1.symm.trans hh) (by simp), fun hh => absurd (hpf.symm.trans hh) (by simp), fun _ => ⟨fun hh => absurd (x1.symm.trans hh) (by simp), fun _ hE => ?_⟩⟩
        exact Ex.add (m := m + 1) (by (with_reducible exact Nat.le_trans (Nat.succ_le_succ (by assumption)) (by decide))) (by (with_reducible exact Nat.succ_pos _)) hn bV (cl h) dd hx x2 x3 (hE.congr fun a b ha hb => x4 a b (by omega) (by omega))
end
end En
end Mine
end
-- En11
section
set_option Elab.async false
set_option linter.unusedVariables false
set_option linter.unusedSimpArgs false
namespace Mine
namespace En
section
variable {N n p m o h f K KU : Nat} {X : List (List Nat)} {V : Nat → Nat → Nat → Int} {pF : Nat → Bool}
theorem loopS_ok (c : Cs N o h f) (hn : p + (m + 1) = n) (hm : m ≤ 6) (hK : K ≤ 10) (hKU : KU ≤ 11) {k : List (List Nat) → Bool} : ∀ {fuel F : Nat} {X : List (List Nat)} {V : Nat → Nat → Nat → Int} {pF : Nat → Bool}, Mk N F pF → RX N X (m + 1) (m + 1) V →
    (∀ x y i, x < m + 1 → y < m + 1 → i < N → -4096 ≤ V x y i ∧ V x y i ≤ 4096) → (∀ i, i < N → pF i = true → 0 ≤ V 0 0 i) → loopS o h f K KU fuel F X k = true →
    ∃ X' V', k X' = true ∧ RX N X' (m + 1) (m + 1) V' ∧ (∀ x y i, x < m + 1 → y < m + 1 → i < N → -4096 ≤ V' x y i ∧ V' x y i ≤ 4096) ∧ ∀ i, i < N →
      (pF i = true → ∀ x y, x < m + 1 → y < m + 1 → V' x y i = V x y i) ∧ (pF i = false → Ex n (p + 1) (fun x y => V' (x + 1) (y + 1) i) → Ex n p fun x y => V x y i)
  | 0, F, X, V, pF, hF, z, lV, hF0, e => nomatch e
  | fuel + 1, F, X, V, pF, hF, z, lV, hF0, e => by
    obtain ⟨F', X', pF', V', v1, v2, v3, v4, v5⟩ := rnd_ok (p := p) (n := n) c hn hm hK hKU hF z lV hF0 e
    cases e1 : Nat.beq F' f with
    | true =>
      rw [e1] at v1
      have hz := beq_eq e1
      subst hz
      have tt := Mk.inj v2 c.f
      refine ⟨X', V', v1, v3, v4, fun i hi => ⟨fun h => ((v5 i hi).2.1 h).2, fun h => ((v5 i hi).2.2 h).1 (tt i hi)⟩⟩
    | false =>
      rw [e1] at v1
      obtain ⟨X2, V2, w1, w2, w3, w4⟩ := loopS_ok c hn hm hK hKU (k := k) (fuel := fuel) v2 v3 v4 (fun i hi h => (v5 i hi).1 h) v1
      refine ⟨X2, V2, w1, w2, w3, fun i hi => ?_⟩
      obtain ⟨a1, a2, a3⟩ := v5 i hi
      obtain ⟨b1, b2⟩ := w4 i hi
      refine ⟨fun h x y hx hy => ?_, fun h hE => ?_⟩
      · rw [b1 (a2 h).1 x y hx hy]; exact (a2 h).2 x y hx hy
      · cases h2 : pF' i with
        | true => exact (a3 h).1 h2 (hE.congr fun x y hx hy => b1 h2 (x + 1) (y + 1) (by omega) (by omega))
        | false => exact (a3 h).2 h2 (b2 h2 hE)
theorem steps_ok (c : Cs N o h f) : ∀ {l : List (Nat × Nat × Nat)} {m p : Nat} {X : List (List Nat)} {V : Nat → Nat → Nat → Int}, (∀ a ∈ l, a.1 ≤ 10 ∧ a.2.1 ≤ 11) → l.length = m → m ≤ 7 → p + m = n → RX N X m m V →
    (∀ x y i, x < m → y < m → i < N → -4096 ≤ V x y i ∧ V x y i ≤ 4096) → steps o h f l X = true → ∀ i, i < N → Ex n p fun x y => V x y i
  | [], m, p, X, V, _, hl, _, hn, _, _, _ => fun i hi => Ex.fin (by simp at hl; omega)
  | (K, KU, fuel) :: l, m, p, X, V, ha, hl, hm, hn, z, lV, e => by
    obtain ⟨m, rfl⟩ : ∃ k, m = k + 1 := ⟨l.length, by simpa using hl.symm⟩
    have h0 := ha _ (List.mem_cons_self)
    have zF : Mk N 0 fun _ => false := ⟨fun _ => 0, pk_zero.symm, fun i hi => by simp⟩
    obtain ⟨X', V', v1, v2, v3, v4⟩ := loopS_ok (p := p) (n := n) c hn (by (with_reducible exact Nat.le_of_succ_le_succ (by assumption))) h0.1 h0.2 zF z lV (fun i hi h => nomatch h) e
    have hin : RX N (inner X') m m fun x y => V' (x + 1) (y + 1) := v2.tl.map fun l x hx hl => hl.tl
    have ih := steps_ok c (l := l) (p := p + 1) (fun a h => ha a (List.mem_cons_of_mem _ h)) (by simpa using hl) (by (with_reducible exact Nat.le_trans (Nat.le_add_right _ _) (by assumption))) (by omega) hin (fun x y i hx hy hi => v3 (x + 1) (y + 1) i (by (with_reducible exact Nat.succ_lt_succ (by assumption))) (by (with_reducible exact Nat.succ_lt_succ (by assumption))) hi) v1
    exact fun i hi => (v4 i hi).2 rfl (ih i hi)
end
-- the lanes' numbers
theorem two_pow_pos' (k : Nat) : 0 < 2 ^ k := Nat.two_pow_pos k
theorem ones_div {b n : Nat} (hb : 1 < b) : (b ^ n - 1) / (b - 1) = pk b n fun _ => 1 := by
  rcases pk_ones (b := b) (n := n) with h | h
  · rw [← h, Nat.add_sub_cancel, Nat.mul_comm, Nat.mul_div_cancel _ (by omega)]
  · omega
theorem on_eq {a : Nat} : on a = pk (2 ^ 26) a fun _ => 1 := by
  have := ones_div (b := 2 ^ 26) (n := a) (by decide)
  rw [← Nat.pow_mul] at this
  exact this
theorem onc_eq {a c : Nat} (hc : 0 < c) : onc a c = pk ((2 ^ 26) ^ c) a fun _ => 1 := by
  have l : 1 < (2 ^ 26) ^ c := by
    rw [← Nat.pow_mul]
    have := Nat.pow_le_pow_right (show 2 > 0 by decide) (show 26 ≤ 26 * c by omega)
    omega
  have := ones_div (b := (2 ^ 26) ^ c) (n := a) l
  rw [← Nat.pow_mul, ← Nat.pow_mul] at this
  rw [← this, ← Nat.pow_mul]
  rfl
theorem sev_eq {c : Nat} : sev c = pk ((2 ^ 26) ^ c) 7 fun j => j := by
  have e : ∀ k, 2 ^ (26 * k * c) = (2 ^ (26 * c)) ^ k := fun k => by rw [← Nat.pow_mul]; congr 1; rw [Nat.mul_assoc, Nat.mul_assoc, Nat.mul_comm k c]
  rw [← Nat.pow_mul]
  show 2 ^ (26 * c) + (2 * 2 ^ (52 * c) + (3 * 2 ^ (78 * c) + (4 * 2 ^ (104 * c) + (5 * 2 ^ (130 * c) + 6 * 2 ^ (156 * c))))) = _
  rw [show 52 = 26 * 2 from rfl, show 78 = 26 * 3 from rfl, show 104 = 26 * 4 from rfl, show 130 = 26 * 5 from rfl, show 156 = 26 * 6 from rfl, e, e, e, e, e]
  generalize 2 ^ (26 * c) = B
  simp only [pk]
  grind
theorem dig_eq {c r : Nat} (hc : 0 < c) : dig c r = pk (2 ^ 26) (7 * c * r) fun i => i / c % 7 := by
  rw [pk_blocks]
  have e1 : ∀ j, (pk (2 ^ 26) (7 * c) fun i => (7 * c * j + i) / c % 7) = pk (2 ^ 26) (7 * c) fun i => i / c % 7 := fun j => pk_congr fun i _ => by
    rw [show 7 * c * j + i = i + c * (7 * j) by grind, Nat.add_mul_div_left _ _ hc, Nat.add_mul_mod_self_left]
  have e2 : (fun j => pk (2 ^ 26) (7 * c) fun i => (7 * c * j + i) / c % 7) = fun _ => pk (2 ^ 26) (7 * c) fun i => i / c % 7 := funext e1
  rw [e2, pk_const, Nat.mul_comm 7 c, pk_blocks]
  have e3 : ∀ j, j < 7 → (pk (2 ^ 26) c fun i => (c * j + i) / c % 7) = on c * j := fun j hj => by
    rw [on_eq, ← pk_const]
    exact pk_congr fun i hi => by rw [Nat.mul_add_div hc, Nat.div_eq_of_lt hi, Nat.add_zero, Nat.mod_eq_of_lt hj]
  rw [pk_congr e3]
  have e4 : (pk ((2 ^ 26) ^ c) 7 fun j => on c * j) = (pk ((2 ^ 26) ^ c) 7 fun j => j) * on c := by rw [pk_mul]; exact pk_congr fun j _ => Nat.mul_comm _ _
  rw [e4, ← sev_eq, show (2 ^ 26) ^ (c * 7) = (2 ^ 26) ^ (7 * c) by rw [Nat.mul_comm], ← onc_eq (by omega)]
  show on c * (sev c * onc r (7 * c)) = _
  grind
theorem U_on {N : Nat} : U N (on N) fun _ => 1 := ⟨fun _ => 1, on_eq, fun i _ => by simp⟩
theorem Cs_on {N : Nat} : Cs N (on N) (Nat.mul 33554432 (on N)) (Nat.mul 67108863 (on N)) :=
  ⟨U_on, (U_on.con' (k := 33554432) (by decide)), (U_on.con' (k := 67108863) (by decide)).congr fun i _ => by simp⟩
theorem ent_ok {c r : Nat} (hc : 0 < c) : R (7 * c * r) (ent c r) fun i => ((i / c % 7 : Nat) : Int) - 3 := by
  have d : U (7 * c * r) (dig c r) fun i => ((i / c % 7 : Nat) : Int) := ⟨_, dig_eq hc, fun i _ => ⟨rfl, by omega⟩⟩
  exact Mine.En.V.r (Mine.En.V.add d.val ((U_on (N := 7 * c * r)).con' (k := 33554429) (by decide)).val) fun i _ => by omega
/-- nv variables, from the one of weight c on -/
noncomputable def ents (nv : Nat) : Nat → List Nat := Nat.rec (fun _ => []) (fun nv ih c => ent c (Nat.pow 7 nv) :: ih (Nat.mul 7 c)) nv
theorem ents_ok : ∀ {nv c : Nat}, 0 < c → RL (c * 7 ^ nv) (ents nv c) nv fun k i => ((i / (c * 7 ^ k) % 7 : Nat) : Int) - 3
  | 0, c, hc => ⟨rfl, fun y hy => absurd hy (Nat.not_lt_zero y)⟩
  | nv + 1, c, hc => by
    have e : c * 7 ^ (nv + 1) = 7 * c * 7 ^ nv := by rw [Nat.pow_succ]; grind
    have ih := ents_ok (nv := nv) (c := 7 * c) (by omega)
    rw [e]
    refine RL.mk ((ent_ok hc).congr fun i _ => by simp) (ih.congr fun k i _ _ => ?_)
    have : 7 * c * 7 ^ k = c * 7 ^ (k + 1) := by rw [Nat.pow_succ]; grind
    rw [this]
/-- the variables that are fixed, then the others -/
noncomputable def cons (o : Nat) (cs : List Nat) (l : List Nat) : List Nat := List.rec l (fun a _ ih => Nat.mul a o :: ih) cs
noncomputable def enumC (o : Nat) (nv : Nat) (cs : List Nat) (l : List (Nat × Nat × Nat)) (ix : List (List Nat)) : Bool :=
  steps o (Nat.mul 33554432 o) (Nat.mul 67108863 o) l (tabN (cons o cs (ents nv 1)) ix)
noncomputable def enumB (nv : Nat) (cs : List Nat) (l : List (Nat × Nat × Nat)) (ix : List (List Nat)) : Bool := enumC (on (Nat.pow 7 nv)) nv cs l ix
theorem cons_ok {N : Nat} : ∀ {cs l : List Nat} {n : Nat} {V : Nat → Nat → Int}, (∀ k ∈ cs, k < 67108864) → RL N l n V → RL N (cons (on N) cs l) (cs.length + n) fun k i => if k < cs.length then ((cs.getD k 0 : Nat) : Int) - 33554432 else V (k - cs.length) i
  | [], l, n, V, _, z => by simpa [cons] using z
  | a :: cs, l, n, V, h, z => by
    have ih := cons_ok (cs := cs) (fun k hk => h k (List.mem_cons_of_mem _ hk)) z
    have ha := h a (List.mem_cons_self)
    rw [show (a :: cs).length + n = (cs.length + n) + 1 by simp; (with_reducible exact Nat.add_right_comm _ _ _)]
    refine RL.mk ?_ (ih.congr fun y i _ _ => ?_)
    · exact U.congr (U_on.con' (k := a) ha) fun i _ => by simp
    · simp only [List.length_cons, Nat.add_lt_add_iff_right, Nat.add_sub_add_right]; rfl
theorem digits : ∀ (nv : Nat) (a : Nat → Nat), (∀ k, a k < 7) → ∃ i, i < 7 ^ nv ∧ ∀ k, k < nv → i / 7 ^ k % 7 = a k
  | 0, a, _ => ⟨0, by simp, fun k hk => by (with_reducible exact absurd (by assumption) (Nat.not_lt_zero _))⟩
  | nv + 1, a, h => by
    obtain ⟨i, hi, e⟩ := digits nv (fun k => a (k + 1)) fun k => h (k + 1)
    have h0 := h 0
    refine ⟨a 0 + 7 * i, by rw [Nat.pow_succ]; omega, fun k hk => ?_⟩
    cases k with
    | zero => rw [Nat.pow_zero, Nat.div_one]; omega
    | succ k =>
      rw [Nat.pow_succ, Nat.mul_comm (7 ^ k) 7, ← Nat.div_div_eq_div_mul, show (a 0 + 7 * i) / 7 = i by omega]
      exact e k (by (with_reducible exact Nat.lt_of_succ_lt_succ (by assumption)))
theorem nthE {E : List Nat} : ∀ {k : Nat} , hdd (Nat.rec E (fun _ l => tll l) k : List Nat) = E.getD k 0 := by
  have tl_nth : ∀ (k : Nat) (E : List Nat), tll (Nat.rec E (fun _ l => tll l) k : List Nat) = (Nat.rec (tll E) (fun _ l => tll l) k : List Nat) := by
    intro k
    induction k with
    | zero => intro E; rfl
    | succ k ih => intro E; show tll (tll _) = tll _; rw [ih]
  intro k
  induction k generalizing E with
  | zero => cases E <;> rfl
  | succ k ih =>
    show hdd (tll (Nat.rec E (fun _ l => tll l) k : List Nat)) = _
    rw [tl_nth, ih]
    cases E <;> rfl
noncomputable def ixF (ix : List (List Nat)) : Nat → Nat → Nat := fun x y => (ix.getD x []).getD y 0
theorem enum_ok {nv n : Nat} {cs : List Nat} {l : List (Nat × Nat × Nat)} {ix : List (List Nat)} (ha : ∀ a ∈ l, a.1 ≤ 10 ∧ a.2.1 ≤ 11) (hl : l.length = n) (hn : cs.length + nv = n) (hv : n ≤ 7) (hx : ix.length = n) (hy : ∀ r ∈ ix, r.length = n) (hk : ∀ r ∈ ix, ∀ k ∈ r, k < n)
    (e : enumB nv cs l ix = true) (tv : Nat → Int) (h0 : ∀ k, k < cs.length → ((cs.getD k 0 : Nat) : Int) = tv k + 33554432) (ht : ∀ k, k < n → -3 ≤ tv k ∧ tv k ≤ 3) : Ex n 0 fun x y => tv (ixF ix x y) := by
  have e2 := ents_ok (nv := nv) (c := 1) (by decide)
  simp only [Nat.one_mul] at e2
  have hcs : ∀ k ∈ cs, k < 67108864 := fun k hk => by
    obtain ⟨i, hi, e⟩ := List.mem_iff_getElem.1 hk
    have a := h0 i hi
    have b := ht i (Nat.lt_of_lt_of_le hi (hn ▸ Nat.le_add_right _ _))
    rw [List.getD_eq_getElem?_getD, List.getElem?_eq_getElem hi] at a
    have a : ((cs[i] : Nat) : Int) = tv i + 33554432 := a
    rw [e] at a; omega
  have hE := cons_ok hcs e2
  rw [hn] at hE
  have row : ∀ x, x < n → (ix.getD x []) ∈ ix := fun x h => by
    rw [List.getD_eq_getElem?_getD, List.getElem?_eq_getElem (by rw [hx]; exact h)]; exact List.getElem_mem _
  have cell : ∀ x y, x < n → y < n → ixF ix x y < n := fun x y h1 h2 => by
    have hr := row x h1
    have hr2 := hy _ hr
    refine hk _ hr _ ?_
    unfold ixF
    generalize ix.getD x [] = r at hr2
    rw [List.getD_eq_getElem?_getD, List.getElem?_eq_getElem (by rw [hr2]; exact h2)]; exact List.getElem_mem _
  have z : RX (7 ^ nv) (tabN (cons (on (7 ^ nv)) cs (ents nv 1)) ix) n n fun x y i => if ixF ix x y < cs.length then ((cs.getD (ixF ix x y) 0 : Nat) : Int) - 33554432 else ((i / 7 ^ (ixF ix x y - cs.length) % 7 : Nat) : Int) - 3 := by
    refine ⟨mp_len.trans hx, fun x hx' => ?_⟩
    unfold tabN
    rw [mp_get (d := []) (by rw [hx]; exact hx')]
    refine ⟨mp_len.trans (hy _ (row x hx')), fun y hy' => ?_⟩
    rw [mp_get (d := 0) (by rw [hy _ (row x hx')]; exact hy'), nthE]
    exact hE.2 (ixF ix x y) (cell x y hx' hy')
  obtain ⟨i, hi, hd⟩ := digits nv (fun k => (tv (k + cs.length) + 3).toNat % 7) fun k => Nat.mod_lt _ (by decide)
  have := steps_ok (n := n) (p := 0) Cs_on ha hl (by (with_reducible assumption)) (by (with_reducible exact Nat.zero_add _)) z (fun x y i h1 h2 _ => by
    split
    · rename_i h; have := h0 _ h; have := ht _ (cell x y h1 h2); omega
    · omega) e i hi
  refine this.congr fun x y h1 h2 => ?_
  rw [Nat.zero_add] at h1 h2
  have c := cell x y h1 h2
  generalize ixF ix x y = k at c
  by_cases h : k < cs.length
  · rw [if_pos h]; have := h0 k h; omega
  · rw [if_neg h]
    have := hd (k - cs.length) (by omega)
    rw [Nat.sub_add_cancel (Nat.le_of_not_lt h)] at this
    have t := ht k c
    rw [this]; omega
theorem Ex.neg {n p : Nat} {M M' : Nat → Nat → Int} (h : Ex n p M) (e : ∀ x y, M' x y = - M x y) : Ex n p M' := fun S g hg hc hb =>
  h S (-g) (by omega) hc fun x y hx hy => by rw [hb x y hx hy, e]; grind
end En
end Mine
end
-- En12
section
set_option Elab.async false
namespace Mine
namespace En
noncomputable def st1 : List (Nat × Nat × Nat) := [(4,4,4)]
noncomputable def st2 : List (Nat × Nat × Nat) := [(4,4,4),(7,8,8)]
noncomputable def st3 : List (Nat × Nat × Nat) := [(4,4,4),(7,8,8),(9,9,9)]
noncomputable def st4 : List (Nat × Nat × Nat) := [(4,4,4),(7,8,8),(9,9,9),(10,11,9)]
noncomputable def st5 : List (Nat × Nat × Nat) := [(4,4,4),(7,8,8),(9,9,9),(10,11,9),(8,11,7)]
noncomputable def st6 : List (Nat × Nat × Nat) := [(4,4,4),(7,8,8),(9,9,9),(10,11,9),(8,11,7),(1,1,2)]
noncomputable def px0 : List (List Nat) := [[0]]
noncomputable def px1 : List (List Nat) := [[0,0],[0,1]]
noncomputable def px2 : List (List Nat) := [[0,0,0],[0,1,0],[0,0,2]]
noncomputable def px3 : List (List Nat) := [[0,0,0],[0,1,1],[0,1,2]]
noncomputable def px4 : List (List Nat) := [[0,0,0,0],[0,1,1,1],[0,1,2,1],[0,1,1,3]]
noncomputable def px5 : List (List Nat) := [[0,0,0,0],[0,1,0,1],[0,0,2,0],[0,1,0,3]]
noncomputable def px6 : List (List Nat) := [[0,0,0,0],[0,1,0,0],[0,0,2,0],[0,0,0,3]]
noncomputable def px7 : List (List Nat) := [[0,0,0,0],[0,1,0,1],[0,0,2,2],[0,1,2,3]]
noncomputable def px8 : List (List Nat) := [[0,0,0,0],[0,1,0,0],[0,0,2,2],[0,0,2,3]]
noncomputable def px9 : List (List Nat) := [[0,0,0,0],[0,1,1,0],[0,1,2,0],[0,0,0,3]]
noncomputable def px10 : List (List Nat) := [[0,0,0,0,0],[0,1,0,1,0],[0,0,2,2,2],[0,1,2,3,2],[0,0,2,2,4]]
noncomputable def px11 : List (List Nat) := [[0,0,0,0,0],[0,1,0,0,1],[0,0,2,2,2],[0,0,2,3,2],[0,1,2,2,4]]
noncomputable def px12 : List (List Nat) := [[0,0,0,0,0],[0,1,0,1,1],[0,0,2,0,2],[0,1,0,3,1],[0,1,2,1,4]]
noncomputable def px13 : List (List Nat) := [[0,0,0,0,0],[0,1,0,1,1],[0,0,2,0,0],[0,1,0,3,1],[0,1,0,1,4]]
noncomputable def px14 : List (List Nat) := [[0,0,0,0,0],[0,1,0,1,1],[0,0,2,2,0],[0,1,2,3,1],[0,1,0,1,4]]
noncomputable def px15 : List (List Nat) := [[0,0,0,0,0],[0,1,1,0,1],[0,1,2,0,1],[0,0,0,3,0],[0,1,1,0,4]]
noncomputable def px16 : List (List Nat) := [[0,0,0,0,0],[0,1,1,0,1],[0,1,2,0,1],[0,0,0,3,3],[0,1,1,3,4]]
noncomputable def px17 : List (List Nat) := [[0,0,0,0,0],[0,1,1,1,0],[0,1,2,1,0],[0,1,1,3,0],[0,0,0,0,4]]
noncomputable def px18 : List (List Nat) := [[0,0,0,0,0,0],[0,1,0,1,1,0],[0,0,2,0,2,2],[0,1,0,3,1,0],[0,1,2,1,4,2],[0,0,2,0,2,5]]
noncomputable def px19 : List (List Nat) := [[0,0,0,0,0,0],[0,1,0,1,1,0],[0,0,2,2,0,2],[0,1,2,3,1,2],[0,1,0,1,4,0],[0,0,2,2,0,5]]
noncomputable def px20 : List (List Nat) := [[0,0,0,0,0,0],[0,1,0,1,0,1],[0,0,2,2,2,0],[0,1,2,3,2,1],[0,0,2,2,4,0],[0,1,0,1,0,5]]
noncomputable def px21 : List (List Nat) := [[0,0,0,0,0,0],[0,1,0,0,1,1],[0,0,2,2,0,2],[0,0,2,3,0,2],[0,1,0,0,4,1],[0,1,2,2,1,5]]
theorem pr0_0 : enumB 0 [33554432] st1 px0 = true := by decide +kernel
theorem pr0_1 : enumB 0 [33554433] st1 px0 = true := by decide +kernel
theorem pr0_2 : enumB 0 [33554434] st1 px0 = true := by decide +kernel
theorem pr0_3 : enumB 0 [33554435] st1 px0 = true := by decide +kernel
theorem pr1_0 : enumB 1 [33554432] st2 px1 = true := by decide +kernel
theorem pr1_1 : enumB 1 [33554433] st2 px1 = true := by decide +kernel
theorem pr1_2 : enumB 1 [33554434] st2 px1 = true := by decide +kernel
theorem pr1_3 : enumB 1 [33554435] st2 px1 = true := by decide +kernel
theorem pr2_0 : enumB 2 [33554432] st3 px2 = true := by decide +kernel
theorem pr2_1 : enumB 2 [33554433] st3 px2 = true := by decide +kernel
theorem pr2_2 : enumB 2 [33554434] st3 px2 = true := by decide +kernel
theorem pr2_3 : enumB 2 [33554435] st3 px2 = true := by decide +kernel
theorem pr3_0 : enumB 2 [33554432] st3 px3 = true := by decide +kernel
theorem pr3_1 : enumB 2 [33554433] st3 px3 = true := by decide +kernel
theorem pr3_2 : enumB 2 [33554434] st3 px3 = true := by decide +kernel
theorem pr3_3 : enumB 2 [33554435] st3 px3 = true := by decide +kernel
theorem pr4_0 : enumB 3 [33554432] st4 px4 = true := by decide +kernel
theorem pr4_1 : enumB 3 [33554433] st4 px4 = true := by decide +kernel
theorem pr4_2 : enumB 3 [33554434] st4 px4 = true := by decide +kernel
theorem pr4_3 : enumB 3 [33554435] st4 px4 = true := by decide +kernel
theorem pr5_0 : enumB 3 [33554432] st4 px5 = true := by decide +kernel
theorem pr5_1 : enumB 3 [33554433] st4 px5 = true := by decide +kernel
theorem pr5_2 : enumB 3 [33554434] st4 px5 = true := by decide +kernel
theorem pr5_3 : enumB 3 [33554435] st4 px5 = true := by decide +kernel
theorem pr6_0 : enumB 3 [33554432] st4 px6 = true := by decide +kernel
theorem pr6_1 : enumB 3 [33554433] st4 px6 = true := by decide +kernel
theorem pr6_2 : enumB 3 [33554434] st4 px6 = true := by decide +kernel
theorem pr6_3 : enumB 3 [33554435] st4 px6 = true := by decide +kernel
theorem pr7_0 : enumB 3 [33554432] st4 px7 = true := by decide +kernel
theorem pr7_1 : enumB 3 [33554433] st4 px7 = true := by decide +kernel
theorem pr7_2 : enumB 3 [33554434] st4 px7 = true := by decide +kernel
theorem pr7_3 : enumB 3 [33554435] st4 px7 = true := by decide +kernel
theorem pr8_0 : enumB 3 [33554432] st4 px8 = true := by decide +kernel
theorem pr8_1 : enumB 3 [33554433] st4 px8 = true := by decide +kernel
theorem pr8_2 : enumB 3 [33554434] st4 px8 = true := by decide +kernel
theorem pr8_3 : enumB 3 [33554435] st4 px8 = true := by decide +kernel
theorem pr9_0 : enumB 3 [33554432] st4 px9 = true := by decide +kernel
theorem pr9_1 : enumB 3 [33554433] st4 px9 = true := by decide +kernel
theorem pr9_2 : enumB 3 [33554434] st4 px9 = true := by decide +kernel
theorem pr9_3 : enumB 3 [33554435] st4 px9 = true := by decide +kernel
theorem pr10_0 : enumB 4 [33554432] st5 px10 = true := by decide +kernel
theorem pr10_1 : enumB 4 [33554433] st5 px10 = true := by decide +kernel
theorem pr10_2 : enumB 4 [33554434] st5 px10 = true := by decide +kernel
theorem pr10_3 : enumB 4 [33554435] st5 px10 = true := by decide +kernel
theorem pr11_0 : enumB 4 [33554432] st5 px11 = true := by decide +kernel
theorem pr11_1 : enumB 4 [33554433] st5 px11 = true := by decide +kernel
theorem pr11_2 : enumB 4 [33554434] st5 px11 = true := by decide +kernel
theorem pr11_3 : enumB 4 [33554435] st5 px11 = true := by decide +kernel
theorem pr12_0 : enumB 4 [33554432] st5 px12 = true := by decide +kernel
theorem pr12_1 : enumB 4 [33554433] st5 px12 = true := by decide +kernel
theorem pr12_2 : enumB 4 [33554434] st5 px12 = true := by decide +kernel
theorem pr12_3 : enumB 4 [33554435] st5 px12 = true := by decide +kernel
theorem pr13_0 : enumB 4 [33554432] st5 px13 = true := by decide +kernel
theorem pr13_1 : enumB 4 [33554433] st5 px13 = true := by decide +kernel
theorem pr13_2 : enumB 4 [33554434] st5 px13 = true := by decide +kernel
theorem pr13_3 : enumB 4 [33554435] st5 px13 = true := by decide +kernel
theorem pr14_0 : enumB 4 [33554432] st5 px14 = true := by decide +kernel
theorem pr14_1 : enumB 4 [33554433] st5 px14 = true := by decide +kernel
theorem pr14_2 : enumB 4 [33554434] st5 px14 = true := by decide +kernel
theorem pr14_3 : enumB 4 [33554435] st5 px14 = true := by decide +kernel
theorem pr15_0 : enumB 4 [33554432] st5 px15 = true := by decide +kernel
theorem pr15_1 : enumB 4 [33554433] st5 px15 = true := by decide +kernel
theorem pr15_2 : enumB 4 [33554434] st5 px15 = true := by decide +kernel
theorem pr15_3 : enumB 4 [33554435] st5 px15 = true := by decide +kernel
theorem pr16_0 : enumB 4 [33554432] st5 px16 = true := by decide +kernel
theorem pr16_1 : enumB 4 [33554433] st5 px16 = true := by decide +kernel
theorem pr16_2 : enumB 4 [33554434] st5 px16 = true := by decide +kernel
theorem pr16_3 : enumB 4 [33554435] st5 px16 = true := by decide +kernel
theorem pr17_0 : enumB 4 [33554432] st5 px17 = true := by decide +kernel
theorem pr17_1 : enumB 4 [33554433] st5 px17 = true := by decide +kernel
theorem pr17_2 : enumB 4 [33554434] st5 px17 = true := by decide +kernel
theorem pr17_3 : enumB 4 [33554435] st5 px17 = true := by decide +kernel
theorem pr18_0_0 : enumB 4 [33554432,33554429] st6 px18 = true := by decide +kernel
theorem pr18_0_1 : enumB 4 [33554432,33554430] st6 px18 = true := by decide +kernel
theorem pr18_0_2 : enumB 4 [33554432,33554431] st6 px18 = true := by decide +kernel
theorem pr18_0_3 : enumB 4 [33554432,33554432] st6 px18 = true := by decide +kernel
theorem pr18_0_4 : enumB 4 [33554432,33554433] st6 px18 = true := by decide +kernel
theorem pr18_0_5 : enumB 4 [33554432,33554434] st6 px18 = true := by decide +kernel
theorem pr18_0_6 : enumB 4 [33554432,33554435] st6 px18 = true := by decide +kernel
theorem pr18_1_0 : enumB 4 [33554433,33554429] st6 px18 = true := by decide +kernel
theorem pr18_1_1 : enumB 4 [33554433,33554430] st6 px18 = true := by decide +kernel
theorem pr18_1_2 : enumB 4 [33554433,33554431] st6 px18 = true := by decide +kernel
theorem pr18_1_3 : enumB 4 [33554433,33554432] st6 px18 = true := by decide +kernel
theorem pr18_1_4 : enumB 4 [33554433,33554433] st6 px18 = true := by decide +kernel
theorem pr18_1_5 : enumB 4 [33554433,33554434] st6 px18 = true := by decide +kernel
theorem pr18_1_6 : enumB 4 [33554433,33554435] st6 px18 = true := by decide +kernel
theorem pr18_2_0 : enumB 4 [33554434,33554429] st6 px18 = true := by decide +kernel
theorem pr18_2_1 : enumB 4 [33554434,33554430] st6 px18 = true := by decide +kernel
theorem pr18_2_2 : enumB 4 [33554434,33554431] st6 px18 = true := by decide +kernel
theorem pr18_2_3 : enumB 4 [33554434,33554432] st6 px18 = true := by decide +kernel
theorem pr18_2_4 : enumB 4 [33554434,33554433] st6 px18 = true := by decide +kernel
theorem pr18_2_5 : enumB 4 [33554434,33554434] st6 px18 = true := by decide +kernel
theorem pr18_2_6 : enumB 4 [33554434,33554435] st6 px18 = true := by decide +kernel
theorem pr18_3_0 : enumB 4 [33554435,33554429] st6 px18 = true := by decide +kernel
theorem pr18_3_1 : enumB 4 [33554435,33554430] st6 px18 = true := by decide +kernel
theorem pr18_3_2 : enumB 4 [33554435,33554431] st6 px18 = true := by decide +kernel
theorem pr18_3_3 : enumB 4 [33554435,33554432] st6 px18 = true := by decide +kernel
theorem pr18_3_4 : enumB 4 [33554435,33554433] st6 px18 = true := by decide +kernel
theorem pr18_3_5 : enumB 4 [33554435,33554434] st6 px18 = true := by decide +kernel
theorem pr18_3_6 : enumB 4 [33554435,33554435] st6 px18 = true := by decide +kernel
theorem pr19_0_0 : enumB 4 [33554432,33554429] st6 px19 = true := by decide +kernel
theorem pr19_0_1 : enumB 4 [33554432,33554430] st6 px19 = true := by decide +kernel
theorem pr19_0_2 : enumB 4 [33554432,33554431] st6 px19 = true := by decide +kernel
theorem pr19_0_3 : enumB 4 [33554432,33554432] st6 px19 = true := by decide +kernel
theorem pr19_0_4 : enumB 4 [33554432,33554433] st6 px19 = true := by decide +kernel
theorem pr19_0_5 : enumB 4 [33554432,33554434] st6 px19 = true := by decide +kernel
theorem pr19_0_6 : enumB 4 [33554432,33554435] st6 px19 = true := by decide +kernel
theorem pr19_1_0 : enumB 4 [33554433,33554429] st6 px19 = true := by decide +kernel
theorem pr19_1_1 : enumB 4 [33554433,33554430] st6 px19 = true := by decide +kernel
theorem pr19_1_2 : enumB 4 [33554433,33554431] st6 px19 = true := by decide +kernel
theorem pr19_1_3 : enumB 4 [33554433,33554432] st6 px19 = true := by decide +kernel
theorem pr19_1_4 : enumB 4 [33554433,33554433] st6 px19 = true := by decide +kernel
theorem pr19_1_5 : enumB 4 [33554433,33554434] st6 px19 = true := by decide +kernel
theorem pr19_1_6 : enumB 4 [33554433,33554435] st6 px19 = true := by decide +kernel
theorem pr19_2_0 : enumB 4 [33554434,33554429] st6 px19 = true := by decide +kernel
theorem pr19_2_1 : enumB 4 [33554434,33554430] st6 px19 = true := by decide +kernel
theorem pr19_2_2 : enumB 4 [33554434,33554431] st6 px19 = true := by decide +kernel
theorem pr19_2_3 : enumB 4 [33554434,33554432] st6 px19 = true := by decide +kernel
theorem pr19_2_4 : enumB 4 [33554434,33554433] st6 px19 = true := by decide +kernel
theorem pr19_2_5 : enumB 4 [33554434,33554434] st6 px19 = true := by decide +kernel
theorem pr19_2_6 : enumB 4 [33554434,33554435] st6 px19 = true := by decide +kernel
theorem pr19_3_0 : enumB 4 [33554435,33554429] st6 px19 = true := by decide +kernel
theorem pr19_3_1 : enumB 4 [33554435,33554430] st6 px19 = true := by decide +kernel
theorem pr19_3_2 : enumB 4 [33554435,33554431] st6 px19 = true := by decide +kernel
theorem pr19_3_3 : enumB 4 [33554435,33554432] st6 px19 = true := by decide +kernel
theorem pr19_3_4 : enumB 4 [33554435,33554433] st6 px19 = true := by decide +kernel
theorem pr19_3_5 : enumB 4 [33554435,33554434] st6 px19 = true := by decide +kernel
theorem pr19_3_6 : enumB 4 [33554435,33554435] st6 px19 = true := by decide +kernel
theorem pr20_0_0 : enumB 4 [33554432,33554429] st6 px20 = true := by decide +kernel
theorem pr20_0_1 : enumB 4 [33554432,33554430] st6 px20 = true := by decide +kernel
theorem pr20_0_2 : enumB 4 [33554432,33554431] st6 px20 = true := by decide +kernel
theorem pr20_0_3 : enumB 4 [33554432,33554432] st6 px20 = true := by decide +kernel
theorem pr20_0_4 : enumB 4 [33554432,33554433] st6 px20 = true := by decide +kernel
theorem pr20_0_5 : enumB 4 [33554432,33554434] st6 px20 = true := by decide +kernel
theorem pr20_0_6 : enumB 4 [33554432,33554435] st6 px20 = true := by decide +kernel
theorem pr20_1_0 : enumB 4 [33554433,33554429] st6 px20 = true := by decide +kernel
theorem pr20_1_1 : enumB 4 [33554433,33554430] st6 px20 = true := by decide +kernel
theorem pr20_1_2 : enumB 4 [33554433,33554431] st6 px20 = true := by decide +kernel
theorem pr20_1_3 : enumB 4 [33554433,33554432] st6 px20 = true := by decide +kernel
theorem pr20_1_4 : enumB 4 [33554433,33554433] st6 px20 = true := by decide +kernel
theorem pr20_1_5 : enumB 4 [33554433,33554434] st6 px20 = true := by decide +kernel
theorem pr20_1_6 : enumB 4 [33554433,33554435] st6 px20 = true := by decide +kernel
theorem pr20_2_0 : enumB 4 [33554434,33554429] st6 px20 = true := by decide +kernel
theorem pr20_2_1 : enumB 4 [33554434,33554430] st6 px20 = true := by decide +kernel
theorem pr20_2_2 : enumB 4 [33554434,33554431] st6 px20 = true := by decide +kernel
theorem pr20_2_3 : enumB 4 [33554434,33554432] st6 px20 = true := by decide +kernel
theorem pr20_2_4 : enumB 4 [33554434,33554433] st6 px20 = true := by decide +kernel
theorem pr20_2_5 : enumB 4 [33554434,33554434] st6 px20 = true := by decide +kernel
theorem pr20_2_6 : enumB 4 [33554434,33554435] st6 px20 = true := by decide +kernel
theorem pr20_3_0 : enumB 4 [33554435,33554429] st6 px20 = true := by decide +kernel
theorem pr20_3_1 : enumB 4 [33554435,33554430] st6 px20 = true := by decide +kernel
theorem pr20_3_2 : enumB 4 [33554435,33554431] st6 px20 = true := by decide +kernel
theorem pr20_3_3 : enumB 4 [33554435,33554432] st6 px20 = true := by decide +kernel
theorem pr20_3_4 : enumB 4 [33554435,33554433] st6 px20 = true := by decide +kernel
theorem pr20_3_5 : enumB 4 [33554435,33554434] st6 px20 = true := by decide +kernel
theorem pr20_3_6 : enumB 4 [33554435,33554435] st6 px20 = true := by decide +kernel
theorem pr21_0_0 : enumB 4 [33554432,33554429] st6 px21 = true := by decide +kernel
theorem pr21_0_1 : enumB 4 [33554432,33554430] st6 px21 = true := by decide +kernel
theorem pr21_0_2 : enumB 4 [33554432,33554431] st6 px21 = true := by decide +kernel
theorem pr21_0_3 : enumB 4 [33554432,33554432] st6 px21 = true := by decide +kernel
theorem pr21_0_4 : enumB 4 [33554432,33554433] st6 px21 = true := by decide +kernel
theorem pr21_0_5 : enumB 4 [33554432,33554434] st6 px21 = true := by decide +kernel
theorem pr21_0_6 : enumB 4 [33554432,33554435] st6 px21 = true := by decide +kernel
theorem pr21_1_0 : enumB 4 [33554433,33554429] st6 px21 = true := by decide +kernel
theorem pr21_1_1 : enumB 4 [33554433,33554430] st6 px21 = true := by decide +kernel
theorem pr21_1_2 : enumB 4 [33554433,33554431] st6 px21 = true := by decide +kernel
theorem pr21_1_3 : enumB 4 [33554433,33554432] st6 px21 = true := by decide +kernel
theorem pr21_1_4 : enumB 4 [33554433,33554433] st6 px21 = true := by decide +kernel
theorem pr21_1_5 : enumB 4 [33554433,33554434] st6 px21 = true := by decide +kernel
theorem pr21_1_6 : enumB 4 [33554433,33554435] st6 px21 = true := by decide +kernel
theorem pr21_2_0 : enumB 4 [33554434,33554429] st6 px21 = true := by decide +kernel
theorem pr21_2_1 : enumB 4 [33554434,33554430] st6 px21 = true := by decide +kernel
theorem pr21_2_2 : enumB 4 [33554434,33554431] st6 px21 = true := by decide +kernel
theorem pr21_2_3 : enumB 4 [33554434,33554432] st6 px21 = true := by decide +kernel
theorem pr21_2_4 : enumB 4 [33554434,33554433] st6 px21 = true := by decide +kernel
theorem pr21_2_5 : enumB 4 [33554434,33554434] st6 px21 = true := by decide +kernel
theorem pr21_2_6 : enumB 4 [33554434,33554435] st6 px21 = true := by decide +kernel
theorem pr21_3_0 : enumB 4 [33554435,33554429] st6 px21 = true := by decide +kernel
theorem pr21_3_1 : enumB 4 [33554435,33554430] st6 px21 = true := by decide +kernel
theorem pr21_3_2 : enumB 4 [33554435,33554431] st6 px21 = true := by decide +kernel
theorem pr21_3_3 : enumB 4 [33554435,33554432] st6 px21 = true := by decide +kernel
theorem pr21_3_4 : enumB 4 [33554435,33554433] st6 px21 = true := by decide +kernel
theorem pr21_3_5 : enumB 4 [33554435,33554434] st6 px21 = true := by decide +kernel
theorem pr21_3_6 : enumB 4 [33554435,33554435] st6 px21 = true := by decide +kernel
end En
end Mine
end
-- Lots2
section
set_option Elab.async false
set_option linter.unusedVariables false
namespace Mine
namespace En
noncomputable def pats : List (List (List Nat)) := [px0, px1, px2, px3, px4, px5, px6, px7, px8, px9, px10, px11, px12, px13, px14, px15, px16, px17, px18, px19, px20, px21]
noncomputable def tri (a b c : Nat) : Nat → Int
  | 0 => a
  | 1 => b
  | _ => c
noncomputable def lotN (a b c : Nat) : List Nat := [1, 2, 3, 4, 5, 6, 7, 8, 9, 10, 11, 12].filter fun i => Nat.beq i a || (Nat.beq i b || (Nat.beq i c || (Nat.beq i (Nat.gcd a b) || (Nat.beq i (Nat.gcd a c) || (Nat.beq i (Nat.gcd b c) || Nat.beq i (Nat.gcd (Nat.gcd a b) c))))))
/-- the lot L has the table px of its meets -/
noncomputable def chkL (L : List Nat) (px : List (List Nat)) : Bool :=
  Nat.beq px.length L.length && (L.all fun a => Nat.ble 1 a && Nat.ble a 12) &&
  (List.range L.length).all fun x => (List.range L.length).all fun y =>
    Nat.beq (L.getD (ixF px x y) 0) (Nat.gcd (L.getD x 0) (L.getD y 0)) && (!Nat.beq (L.getD x 0) (L.getD y 0) || Nat.beq x y) && (Nat.beq (L.getD x 0 % L.getD y 0) 0 == Nat.beq (ixF px x y) y)
/-- what is so of a table of meets -/
noncomputable def chkP (px : List (List Nat)) : Bool :=
  Nat.ble 1 px.length && Nat.ble px.length 6 && (px.all fun r => Nat.beq r.length px.length && r.all fun k => Nat.blt k px.length) &&
  (List.range px.length).all fun x => Nat.beq (ixF px x x) x && (List.range px.length).all fun y => (!Nat.blt x y || !Nat.beq (ixF px x y) y) &&
    (List.range px.length).all fun m => Nat.beq (ixF px (ixF px x y) m) m == (Nat.beq (ixF px x m) m && Nat.beq (ixF px y m) m)
theorem pats_ok : pats.all chkP = true := by decide +kernel
theorem lots_ok : ((List.range' 1 12).all fun a => (List.range' 1 12).all fun b => (List.range' 1 12).all fun c => Nat.blt b a || (Nat.blt c b || pats.any (chkL (lotN a b c)))) = true := by decide +kernel
theorem or_ab : ∀ a b c x y z w : Bool, (a || (b || (c || (x || (y || (z || w)))))) = (b || (a || (c || (x || (z || (y || w)))))) := by decide
theorem or_bc : ∀ a b c x y z w : Bool, (a || (b || (c || (x || (y || (z || w)))))) = (a || (c || (b || (y || (x || (z || w)))))) := by decide
theorem or_lot : ∀ a b c x y z w : Bool, (a || (x || (y || (x || (b || (z || (y || (z || (c || (w || false)))))))))) = (a || (b || (c || (x || (y || (z || w)))))) := by decide
theorem lotN_swap {a b c : Nat} : lotN a b c = lotN b a c := by
  unfold lotN
  rw [Nat.gcd_comm b a]
  exact List.filter_congr fun i _ => or_ab ..
theorem lotN_swap2 {a b c : Nat} : lotN a b c = lotN a c b := by
  unfold lotN
  rw [Nat.gcd_comm c b, Nat.gcd_assoc a c b, Nat.gcd_comm c b, ← Nat.gcd_assoc]
  exact List.filter_congr fun i _ => or_bc ..
theorem mem12 {a : Nat} (h : 1 ≤ a ∧ a ≤ 12) : a ∈ List.range' 1 12 := List.mem_range'_1.2 ⟨h.1, Nat.lt_succ_of_le h.2⟩
theorem blt_false {a b : Nat} (h : b ≤ a) : Nat.blt a b = false := by
  cases e : Nat.blt a b with
  | false => rfl
  | true => have := Nat.le_of_ble_eq_true e; omega
theorem lots_sorted {a b c : Nat} (ha : 1 ≤ a) (hab : a ≤ b) (hbc : b ≤ c) (hc : c ≤ 12) : pats.any (chkL (lotN a b c)) = true := by
  have h1 := List.all_eq_true.1 lots_ok a (mem12 (by omega))
  have h2 := List.all_eq_true.1 h1 b (mem12 (by omega))
  have h3 := List.all_eq_true.1 h2 c (mem12 (by omega))
  rw [blt_false hab, blt_false hbc] at h3
  exact h3
theorem lots_all {a b c : Nat} (ha : 1 ≤ a ∧ a ≤ 12) (hb : 1 ≤ b ∧ b ≤ 12) (hc : 1 ≤ c ∧ c ≤ 12) : pats.any (chkL (lotN a b c)) = true := by
  rcases Nat.le_total a b with h | h <;> rcases Nat.le_total b c with h2 | h2 <;> rcases Nat.le_total a c with h3 | h3
  · exact lots_sorted (by (with_reducible exact And.left (by assumption))) h h2 (by (with_reducible exact And.right (by assumption)))
  · exact lots_sorted (by (with_reducible exact And.left (by assumption))) h h2 (by (with_reducible exact And.right (by assumption)))
  · rw [lotN_swap2]; exact lots_sorted (by (with_reducible exact And.left (by assumption))) h3 h2 (by (with_reducible exact And.right (by assumption)))
  · rw [lotN_swap2, lotN_swap]; exact lots_sorted (by (with_reducible exact And.left (by assumption))) h3 h (by (with_reducible exact And.right (by assumption)))
  · rw [lotN_swap]; exact lots_sorted (by (with_reducible exact And.left (by assumption))) h h3 (by (with_reducible exact And.right (by assumption)))
  · rw [lotN_swap, lotN_swap2]; exact lots_sorted (by (with_reducible exact And.left (by assumption))) h2 h3 (by (with_reducible exact And.right (by assumption)))
  · rw [lotN_swap, lotN_swap2, lotN_swap]; exact lots_sorted (by (with_reducible exact And.left (by assumption))) h2 h (by (with_reducible exact And.right (by assumption)))
  · rw [lotN_swap, lotN_swap2, lotN_swap]; exact lots_sorted (by (with_reducible exact And.left (by assumption))) h2 h (by (with_reducible exact And.right (by assumption)))
theorem gcd_nat (a b : Nat) : Int.gcd (a : Int) (b : Int) = Nat.gcd a b := rfl
theorem natb (a b : Nat) : (((a : Nat) : Int) == (b : Int)) = Nat.beq b a := by
  by_cases h : a = b
  · subst h; simp [Nat.beq_refl]
  · have h2 : ¬ (a : Int) = b := by omega
    have h3 : Nat.beq b a = false := by
      cases e : Nat.beq b a with
      | false => rfl
      | true => exact absurd (Nat.eq_of_beq_eq_true e).symm h
    rw [h3]; simpa using h2
/-- the lot, as numbers -/
theorem lot_eq (a b c : Nat) : lotL (tri a b c) = (lotN a b c).map fun i : Nat => (i : Int) := by
  have e1 : [1, 2, 3, 4, 5, 6, 7, 8, 9, 10, 11, 12] = (List.range 12).map fun i => 1 + i := by decide
  unfold lotN lotL
  rw [e1, List.filter_map, List.map_map]
  have e2 : (fun i : Nat => (1 : Int) + (i : Int)) = (fun i : Nat => (i : Int)) ∘ fun i => 1 + i := by funext i; simp
  rw [e2]
  congr 1
  refine List.filter_congr fun i _ => ?_
  have e3 : lotF (tri a b c) = [((Nat.gcd a a : Nat) : Int), ((Nat.gcd a b : Nat) : Int), ((Nat.gcd a c : Nat) : Int), ((Nat.gcd b a : Nat) : Int), ((Nat.gcd b b : Nat) : Int), ((Nat.gcd b c : Nat) : Int), ((Nat.gcd c a : Nat) : Int), ((Nat.gcd c b : Nat) : Int), ((Nat.gcd c c : Nat) : Int), ((Nat.gcd (Nat.gcd a b) c : Nat) : Int)] := rfl
  rw [e3]
  have e4 : (1 : Int) + (i : Int) = ((1 + i : Nat) : Int) := by simp
  simp only [List.any_cons, List.any_nil, e4, natb, Nat.gcd_self, Nat.gcd_comm b a, Nat.gcd_comm c a, Nat.gcd_comm c b, Function.comp]
  exact or_lot ..
theorem lotL_tri {g : Nat → Int} {a b c : Nat} (h0 : g 0 = a) (h1 : g 1 = b) (h2 : g 2 = c) : lotL g = lotL (tri a b c) := by
  have : lotF g = lotF (tri a b c) := by
    show [((Int.gcd (g 0) (g 0) : Nat) : Int), ((Int.gcd (g 0) (g 1) : Nat) : Int), ((Int.gcd (g 0) (g 2) : Nat) : Int), ((Int.gcd (g 1) (g 0) : Nat) : Int), ((Int.gcd (g 1) (g 1) : Nat) : Int), ((Int.gcd (g 1) (g 2) : Nat) : Int), ((Int.gcd (g 2) (g 0) : Nat) : Int), ((Int.gcd (g 2) (g 1) : Nat) : Int), ((Int.gcd (g 2) (g 2) : Nat) : Int), ((Int.gcd (Int.gcd (g 0) (g 1) : Nat) (g 2) : Nat) : Int)] = _
    rw [h0, h1, h2]; rfl
  unfold lotL
  rw [this]
end En
end Mine
end
-- Lots3
section
set_option Elab.async false
set_option linter.unusedVariables false
namespace Mine
namespace En
theorem ex_sign {n : Nat} {ix : Nat → Nat → Nat} (h : ∀ tv : Nat → Int, (∀ k, k < n → -3 ≤ tv k ∧ tv k ≤ 3) → 0 ≤ tv 0 → Ex n 0 fun x y => tv (ix x y)) (tv : Nat → Int) (ht : ∀ k, k < n → -3 ≤ tv k ∧ tv k ≤ 3) : Ex n 0 fun x y => tv (ix x y) := by
  by_cases h0 : 0 ≤ tv 0
  · exact h tv ht h0
  · exact (h (fun k => - tv k) (fun k hk => by have := ht k hk; omega) (by omega)).neg fun x y => (Int.neg_neg _).symm
theorem chkP_rows {px : List (List Nat)} (h : chkP px = true) : (∀ r ∈ px, r.length = px.length) ∧ ∀ r ∈ px, ∀ k ∈ r, k < px.length := by
  unfold chkP at h
  simp only [Bool.and_eq_true] at h
  have h2 := List.all_eq_true.1 h.1.2
  refine ⟨fun r hr => ?_, fun r hr k hk => ?_⟩
  · have := h2 r hr
    simp only [Bool.and_eq_true] at this
    exact Nat.eq_of_beq_eq_true this.1
  · have := h2 r hr
    simp only [Bool.and_eq_true] at this
    exact Nat.le_of_ble_eq_true (List.all_eq_true.1 this.2 k hk)
noncomputable def Al {α : Type} (P : α → Prop) : List α → Prop
  | [] => True
  | a :: l => P a ∧ Al P l
theorem Al.get {α : Type} {P : α → Prop} : ∀ {l : List α} {a : α}, Al P l → a ∈ l → P a
  | b :: l, a, h, m => by
    rcases List.mem_cons.1 m with rfl | m
    · exact h.1
    · exact h.2.get m
noncomputable def qs1 : List (List Nat) := (List.range 4).map fun a => [33554432 + a]
noncomputable def qs2 : List (List Nat) := (List.range 4).flatMap fun a => (List.range 7).map fun b => [33554432 + a, 33554429 + b]
/-- one variable fixed, or two -/
theorem enA {nv n : Nat} {st : List (Nat × Nat × Nat)} {ix : List (List Nat)} (ha : ∀ a ∈ st, a.1 ≤ 10 ∧ a.2.1 ≤ 11) (hl : st.length = n) (hn : 1 + nv = n) (hv : n ≤ 7) (hp : chkP ix = true) (hx : ix.length = n) (e : Al (fun q => enumB nv q st ix = true) qs1) :
    ∀ tv : Nat → Int, (∀ k, k < n → -3 ≤ tv k ∧ tv k ≤ 3) → Ex n 0 fun x y => tv (ixF ix x y) := ex_sign fun tv ht h0 => by
  obtain ⟨h1, h2⟩ := chkP_rows hp
  rw [hx] at h1 h2
  have t0 := ht 0 (by omega)
  have hq : [33554432 + (tv 0).toNat] ∈ qs1 := List.mem_map.2 ⟨_, List.mem_range.2 (by omega), rfl⟩
  refine enum_ok ha hl hn hv hx h1 h2 (e.get hq) tv (fun k hk => ?_) ht
  have : k = 0 := Nat.lt_one_iff.1 hk
  subst this
  show ((33554432 + (tv 0).toNat : Nat) : Int) = _
  omega
theorem enC {nv n : Nat} {st : List (Nat × Nat × Nat)} {ix : List (List Nat)} (ha : ∀ a ∈ st, a.1 ≤ 10 ∧ a.2.1 ≤ 11) (hl : st.length = n) (hn : 2 + nv = n) (hv : n ≤ 7) (hp : chkP ix = true) (hx : ix.length = n) (e : Al (fun q => enumB nv q st ix = true) qs2) :
    ∀ tv : Nat → Int, (∀ k, k < n → -3 ≤ tv k ∧ tv k ≤ 3) → Ex n 0 fun x y => tv (ixF ix x y) := ex_sign fun tv ht h0 => by
  obtain ⟨h1, h2⟩ := chkP_rows hp
  rw [hx] at h1 h2
  have t0 := ht 0 (by omega)
  have t1 := ht 1 (by omega)
  have hq : [33554432 + (tv 0).toNat, 33554429 + (tv 1 + 3).toNat] ∈ qs2 := List.mem_flatMap.2 ⟨_, List.mem_range.2 (by omega), List.mem_map.2 ⟨_, List.mem_range.2 (by omega), rfl⟩⟩
  refine enum_ok ha hl hn hv hx h1 h2 (e.get hq) tv (fun k hk => ?_) ht
  cases k with
  | zero => show ((33554432 + (tv 0).toNat : Nat) : Int) = _; omega
  | succ k =>
    have : k = 0 := Nat.lt_one_iff.1 (Nat.lt_of_succ_lt_succ hk)
    subst this
    show ((33554429 + (tv 1 + 3).toNat : Nat) : Int) = tv 1 + 33554432
    omega
theorem ex0 : ∀ tv : Nat → Int, (∀ k, k < 1 → -3 ≤ tv k ∧ tv k ≤ 3) → Ex 1 0 fun x y => tv (ixF px0 x y) := enA (nv := 0) (st := st1) (by decide) rfl rfl (by decide) (by decide +kernel) rfl ⟨pr0_0, pr0_1, pr0_2, pr0_3, trivial⟩
theorem ex1 : ∀ tv : Nat → Int, (∀ k, k < 2 → -3 ≤ tv k ∧ tv k ≤ 3) → Ex 2 0 fun x y => tv (ixF px1 x y) := enA (nv := 1) (st := st2) (by decide) rfl rfl (by decide) (by decide +kernel) rfl ⟨pr1_0, pr1_1, pr1_2, pr1_3, trivial⟩
theorem ex2 : ∀ tv : Nat → Int, (∀ k, k < 3 → -3 ≤ tv k ∧ tv k ≤ 3) → Ex 3 0 fun x y => tv (ixF px2 x y) := enA (nv := 2) (st := st3) (by decide) rfl rfl (by decide) (by decide +kernel) rfl ⟨pr2_0, pr2_1, pr2_2, pr2_3, trivial⟩
theorem ex3 : ∀ tv : Nat → Int, (∀ k, k < 3 → -3 ≤ tv k ∧ tv k ≤ 3) → Ex 3 0 fun x y => tv (ixF px3 x y) := enA (nv := 2) (st := st3) (by decide) rfl rfl (by decide) (by decide +kernel) rfl ⟨pr3_0, pr3_1, pr3_2, pr3_3, trivial⟩
theorem ex4 : ∀ tv : Nat → Int, (∀ k, k < 4 → -3 ≤ tv k ∧ tv k ≤ 3) → Ex 4 0 fun x y => tv (ixF px4 x y) := enA (nv := 3) (st := st4) (by decide) rfl rfl (by decide) (by decide +kernel) rfl ⟨pr4_0, pr4_1, pr4_2, pr4_3, trivial⟩
theorem ex5 : ∀ tv : Nat → Int, (∀ k, k < 4 → -3 ≤ tv k ∧ tv k ≤ 3) → Ex 4 0 fun x y => tv (ixF px5 x y) := enA (nv := 3) (st := st4) (by decide) rfl rfl (by decide) (by decide +kernel) rfl ⟨pr5_0, pr5_1, pr5_2, pr5_3, trivial⟩
theorem ex6 : ∀ tv : Nat → Int, (∀ k, k < 4 → -3 ≤ tv k ∧ tv k ≤ 3) → Ex 4 0 fun x y => tv (ixF px6 x y) := enA (nv := 3) (st := st4) (by decide) rfl rfl (by decide) (by decide +kernel) rfl ⟨pr6_0, pr6_1, pr6_2, pr6_3, trivial⟩
theorem ex7 : ∀ tv : Nat → Int, (∀ k, k < 4 → -3 ≤ tv k ∧ tv k ≤ 3) → Ex 4 0 fun x y => tv (ixF px7 x y) := enA (nv := 3) (st := st4) (by decide) rfl rfl (by decide) (by decide +kernel) rfl ⟨pr7_0, pr7_1, pr7_2, pr7_3, trivial⟩
theorem ex8 : ∀ tv : Nat → Int, (∀ k, k < 4 → -3 ≤ tv k ∧ tv k ≤ 3) → Ex 4 0 fun x y => tv (ixF px8 x y) := enA (nv := 3) (st := st4) (by decide) rfl rfl (by decide) (by decide +kernel) rfl ⟨pr8_0, pr8_1, pr8_2, pr8_3, trivial⟩
theorem ex9 : ∀ tv : Nat → Int, (∀ k, k < 4 → -3 ≤ tv k ∧ tv k ≤ 3) → Ex 4 0 fun x y => tv (ixF px9 x y) := enA (nv := 3) (st := st4) (by decide) rfl rfl (by decide) (by decide +kernel) rfl ⟨pr9_0, pr9_1, pr9_2, pr9_3, trivial⟩
theorem ex10 : ∀ tv : Nat → Int, (∀ k, k < 5 → -3 ≤ tv k ∧ tv k ≤ 3) → Ex 5 0 fun x y => tv (ixF px10 x y) := enA (nv := 4) (st := st5) (by decide) rfl rfl (by decide) (by decide +kernel) rfl ⟨pr10_0, pr10_1, pr10_2, pr10_3, trivial⟩
theorem ex11 : ∀ tv : Nat → Int, (∀ k, k < 5 → -3 ≤ tv k ∧ tv k ≤ 3) → Ex 5 0 fun x y => tv (ixF px11 x y) := enA (nv := 4) (st := st5) (by decide) rfl rfl (by decide) (by decide +kernel) rfl ⟨pr11_0, pr11_1, pr11_2, pr11_3, trivial⟩
theorem ex12 : ∀ tv : Nat → Int, (∀ k, k < 5 → -3 ≤ tv k ∧ tv k ≤ 3) → Ex 5 0 fun x y => tv (ixF px12 x y) := enA (nv := 4) (st := st5) (by decide) rfl rfl (by decide) (by decide +kernel) rfl ⟨pr12_0, pr12_1, pr12_2, pr12_3, trivial⟩
theorem ex13 : ∀ tv : Nat → Int, (∀ k, k < 5 → -3 ≤ tv k ∧ tv k ≤ 3) → Ex 5 0 fun x y => tv (ixF px13 x y) := enA (nv := 4) (st := st5) (by decide) rfl rfl (by decide) (by decide +kernel) rfl ⟨pr13_0, pr13_1, pr13_2, pr13_3, trivial⟩
theorem ex14 : ∀ tv : Nat → Int, (∀ k, k < 5 → -3 ≤ tv k ∧ tv k ≤ 3) → Ex 5 0 fun x y => tv (ixF px14 x y) := enA (nv := 4) (st := st5) (by decide) rfl rfl (by decide) (by decide +kernel) rfl ⟨pr14_0, pr14_1, pr14_2, pr14_3, trivial⟩
theorem ex15 : ∀ tv : Nat → Int, (∀ k, k < 5 → -3 ≤ tv k ∧ tv k ≤ 3) → Ex 5 0 fun x y => tv (ixF px15 x y) := enA (nv := 4) (st := st5) (by decide) rfl rfl (by decide) (by decide +kernel) rfl ⟨pr15_0, pr15_1, pr15_2, pr15_3, trivial⟩
theorem ex16 : ∀ tv : Nat → Int, (∀ k, k < 5 → -3 ≤ tv k ∧ tv k ≤ 3) → Ex 5 0 fun x y => tv (ixF px16 x y) := enA (nv := 4) (st := st5) (by decide) rfl rfl (by decide) (by decide +kernel) rfl ⟨pr16_0, pr16_1, pr16_2, pr16_3, trivial⟩
theorem ex17 : ∀ tv : Nat → Int, (∀ k, k < 5 → -3 ≤ tv k ∧ tv k ≤ 3) → Ex 5 0 fun x y => tv (ixF px17 x y) := enA (nv := 4) (st := st5) (by decide) rfl rfl (by decide) (by decide +kernel) rfl ⟨pr17_0, pr17_1, pr17_2, pr17_3, trivial⟩
theorem ex18 : ∀ tv : Nat → Int, (∀ k, k < 6 → -3 ≤ tv k ∧ tv k ≤ 3) → Ex 6 0 fun x y => tv (ixF px18 x y) := enC (nv := 4) (st := st6) (by decide) rfl rfl (by decide) (by decide +kernel) rfl ⟨pr18_0_0, pr18_0_1, pr18_0_2, pr18_0_3, pr18_0_4, pr18_0_5, pr18_0_6, pr18_1_0, pr18_1_1, pr18_1_2, pr18_1_3, pr18_1_4, pr18_1_5, pr18_1_6, pr18_2_0, pr18_2_1, pr18_2_2, pr18_2_3, pr18_2_4, pr18_2_5, pr18_2_6, pr18_3_0, pr18_3_1, pr18_3_2, pr18_3_3, pr18_3_4, pr18_3_5, pr18_3_6, trivial⟩
theorem ex19 : ∀ tv : Nat → Int, (∀ k, k < 6 → -3 ≤ tv k ∧ tv k ≤ 3) → Ex 6 0 fun x y => tv (ixF px19 x y) := enC (nv := 4) (st := st6) (by decide) rfl rfl (by decide) (by decide +kernel) rfl ⟨pr19_0_0, pr19_0_1, pr19_0_2, pr19_0_3, pr19_0_4, pr19_0_5, pr19_0_6, pr19_1_0, pr19_1_1, pr19_1_2, pr19_1_3, pr19_1_4, pr19_1_5, pr19_1_6, pr19_2_0, pr19_2_1, pr19_2_2, pr19_2_3, pr19_2_4, pr19_2_5, pr19_2_6, pr19_3_0, pr19_3_1, pr19_3_2, pr19_3_3, pr19_3_4, pr19_3_5, pr19_3_6, trivial⟩
theorem ex20 : ∀ tv : Nat → Int, (∀ k, k < 6 → -3 ≤ tv k ∧ tv k ≤ 3) → Ex 6 0 fun x y => tv (ixF px20 x y) := enC (nv := 4) (st := st6) (by decide) rfl rfl (by decide) (by decide +kernel) rfl ⟨pr20_0_0, pr20_0_1, pr20_0_2, pr20_0_3, pr20_0_4, pr20_0_5, pr20_0_6, pr20_1_0, pr20_1_1, pr20_1_2, pr20_1_3, pr20_1_4, pr20_1_5, pr20_1_6, pr20_2_0, pr20_2_1, pr20_2_2, pr20_2_3, pr20_2_4, pr20_2_5, pr20_2_6, pr20_3_0, pr20_3_1, pr20_3_2, pr20_3_3, pr20_3_4, pr20_3_5, pr20_3_6, trivial⟩
theorem ex21 : ∀ tv : Nat → Int, (∀ k, k < 6 → -3 ≤ tv k ∧ tv k ≤ 3) → Ex 6 0 fun x y => tv (ixF px21 x y) := enC (nv := 4) (st := st6) (by decide) rfl rfl (by decide) (by decide +kernel) rfl ⟨pr21_0_0, pr21_0_1, pr21_0_2, pr21_0_3, pr21_0_4, pr21_0_5, pr21_0_6, pr21_1_0, pr21_1_1, pr21_1_2, pr21_1_3, pr21_1_4, pr21_1_5, pr21_1_6, pr21_2_0, pr21_2_1, pr21_2_2, pr21_2_3, pr21_2_4, pr21_2_5, pr21_2_6, pr21_3_0, pr21_3_1, pr21_3_2, pr21_3_3, pr21_3_4, pr21_3_5, pr21_3_6, trivial⟩
theorem exAll (px : List (List Nat)) (h : px ∈ pats) : ∀ tv : Nat → Int, (∀ k, k < px.length → -3 ≤ tv k ∧ tv k ≤ 3) → Ex px.length 0 fun x y => tv (ixF px x y) :=
  Al.get (P := fun px => ∀ tv : Nat → Int, (∀ k, k < px.length → -3 ≤ tv k ∧ tv k ≤ 3) → Ex px.length 0 fun x y => tv (ixF px x y)) (l := pats) ⟨ex0, ex1, ex2, ex3, ex4, ex5, ex6, ex7, ex8, ex9, ex10, ex11, ex12, ex13, ex14, ex15, ex16, ex17, ex18, ex19, ex20, ex21, trivial⟩ h
end En
end Mine
end
-- Lots4
section
set_option Elab.async false
set_option linter.unusedVariables false
namespace Mine
namespace En
theorem chkP_A {px : List (List Nat)} (h : chkP px = true) : (∀ x, x < px.length → ixF px x x = x) ∧ (∀ x y, x < px.length → y < px.length → x < y → ixF px x y ≠ y) ∧
    ∀ x y m, x < px.length → y < px.length → m < px.length → (ixF px (ixF px x y) m = m ↔ ixF px x m = m ∧ ixF px y m = m) := by
  unfold chkP at h
  simp only [Bool.and_eq_true] at h
  have h2 := List.all_eq_true.1 h.2
  have beqi : ∀ a b : Nat, Nat.beq a b = true ↔ a = b := fun a b => ⟨Nat.eq_of_beq_eq_true, fun e => by subst e; exact Nat.beq_refl a⟩
  have blti : ∀ a b : Nat, Nat.blt a b = true ↔ a < b := fun a b => ⟨fun e => Nat.le_of_ble_eq_true e, fun e => Nat.ble_eq_true_of_le e⟩
  refine ⟨fun x hx => ?_, fun x y hx hy hxy e => ?_, fun x y m hx hy hm => ?_⟩
  · have := h2 x (List.mem_range.2 hx)
    simp only [Bool.and_eq_true] at this
    exact (beqi _ _).1 this.1
  · have := h2 x (List.mem_range.2 hx)
    simp only [Bool.and_eq_true] at this
    have := List.all_eq_true.1 this.2 y (List.mem_range.2 hy)
    simp only [Bool.and_eq_true] at this
    have := this.1
    rw [(blti x y).2 hxy, (beqi _ _).2 e] at this
    cases this
  · have := h2 x (List.mem_range.2 hx)
    simp only [Bool.and_eq_true] at this
    have := List.all_eq_true.1 this.2 y (List.mem_range.2 hy)
    simp only [Bool.and_eq_true] at this
    have := List.all_eq_true.1 this.2 m (List.mem_range.2 hm)
    have e : Nat.beq (ixF px (ixF px x y) m) m = (Nat.beq (ixF px x m) m && Nat.beq (ixF px y m) m) := by simpa using this
    rw [← beqi, e, Bool.and_eq_true, beqi, beqi]
theorem chkP_len {px : List (List Nat)} (h : chkP px = true) : 1 ≤ px.length ∧ px.length ≤ 6 := by
  unfold chkP at h
  simp only [Bool.and_eq_true] at h
  exact ⟨Nat.le_of_ble_eq_true h.1.1.1, Nat.le_of_ble_eq_true h.1.1.2⟩
theorem chkL_all {L : List Nat} {px : List (List Nat)} (h : chkL L px = true) : px.length = L.length ∧ (∀ a ∈ L, 1 ≤ a ∧ a ≤ 12) ∧ ∀ x y, x < L.length → y < L.length →
    L.getD (ixF px x y) 0 = Nat.gcd (L.getD x 0) (L.getD y 0) ∧ (L.getD x 0 = L.getD y 0 → x = y) ∧ (L.getD x 0 % L.getD y 0 = 0 ↔ ixF px x y = y) := by
  unfold chkL at h
  simp only [Bool.and_eq_true] at h
  have beqi : ∀ a b : Nat, Nat.beq a b = true ↔ a = b := fun a b => ⟨Nat.eq_of_beq_eq_true, fun e => by subst e; exact Nat.beq_refl a⟩
  refine ⟨(beqi _ _).1 h.1.1, fun a ha => ?_, fun x y hx hy => ?_⟩
  · have := List.all_eq_true.1 h.1.2 a ha
    simp only [Bool.and_eq_true] at this
    exact ⟨Nat.le_of_ble_eq_true this.1, Nat.le_of_ble_eq_true this.2⟩
  · have := List.all_eq_true.1 (List.all_eq_true.1 h.2 x (List.mem_range.2 hx)) y (List.mem_range.2 hy)
    simp only [Bool.and_eq_true] at this
    obtain ⟨⟨h1, h2⟩, h3⟩ := this
    refine ⟨(beqi _ _).1 h1, fun e => ?_, ?_⟩
    · rw [(beqi _ _).2 e] at h2
      exact (beqi _ _).1 (by simpa using h2)
    · have e : Nat.beq (L.getD x 0 % L.getD y 0) 0 = Nat.beq (ixF px x y) y := by simpa using h3
      rw [← beqi, e, beqi]
theorem sumFrom_last {f : Nat → Int} : ∀ c p, sumFrom f p (c + 1) = sumFrom f p c + f (p + c)
  | 0, p => by show f p + 0 = 0 + f (p + 0); simp
  | c + 1, p => by
    show f p + sumFrom f (p + 1) (c + 1) = f p + sumFrom f (p + 1) c + f (p + (c + 1))
    rw [sumFrom_last c (p + 1), show p + 1 + c = p + (c + 1) by omega]; omega
theorem sumFrom_to {f : Nat → Int} : ∀ c, sumFrom f 0 c = sumTo f c
  | 0 => rfl
  | c + 1 => by rw [sumFrom_last, sumFrom_to c, Nat.zero_add]; rfl
theorem sumTo_cg {f g : Nat → Int} : ∀ c, (∀ i, i < c → f i = g i) → sumTo f c = sumTo g c
  | 0, _ => rfl
  | c + 1, h => by show sumTo f c + f c = sumTo g c + g c; rw [sumTo_cg c fun i hi => h i (by (with_reducible exact Nat.lt_succ_of_lt (by assumption))), h c (by (with_reducible exact Nat.lt_succ_self _))]
theorem sumTo_tail {f : Nat → Int} {k : Nat} : ∀ d, (∀ i, k ≤ i → i < k + d → f i = 0) → sumTo f (k + d) = sumTo f k
  | 0, _ => rfl
  | d + 1, h => by show sumTo f (k + d) + f (k + d) = _; rw [sumTo_tail d fun i h1 h2 => h i h1 (by omega), h (k + d) (by (with_reducible exact Nat.le_add_right _ _)) (by (with_reducible exact Nat.add_lt_add_left (Nat.lt_succ_self _) _))]; simp
theorem natOf {z : Int} (h : 1 ≤ z ∧ z ≤ 12) : ∃ a : Nat, z = a ∧ 1 ≤ a ∧ a ≤ 12 := ⟨z.toNat, by omega⟩
end En
open En in
theorem plain_lot (g : Nat → Int) (hg : ∀ i, i < 3 → 1 ≤ g i ∧ g i ≤ 12) : ∃ n lf ix, Lot g n lf ix ∧ ∀ tv, (∀ i, i < n → -3 ≤ tv i ∧ tv i ≤ 3) → Plain n lf ix tv := by
  obtain ⟨a, ha, ba⟩ := natOf (hg 0 (by decide))
  obtain ⟨b, hb, bb⟩ := natOf (hg 1 (by decide))
  obtain ⟨c, hc, bc⟩ := natOf (hg 2 (by decide))
  have hL := lots_all ba bb bc
  rw [List.any_eq_true] at hL
  obtain ⟨px, hpx, hl⟩ := hL
  have hp := List.all_eq_true.1 pats_ok px hpx
  have hlot : lotL g = (lotN a b c).map fun i : Nat => (i : Int) := (lotL_tri ha hb hc).trans (lot_eq a b c)
  generalize lotN a b c = L at hl hlot
  obtain ⟨l1, l2, l3⟩ := chkL_all hl
  obtain ⟨p1, p2, p3⟩ := chkP_A hp
  obtain ⟨n1, n6⟩ := chkP_len hp
  have hrow := chkP_rows hp
  have hex := exAll px hpx
  rw [l1] at p1 p2 p3 n1 n6 hrow hex
  have mem : ∀ i, i < L.length → L.getD i 0 ∈ L := fun i hi => by
    rw [List.getD_eq_getElem?_getD, List.getElem?_eq_getElem hi]; exact List.getElem_mem _
  have cell : ∀ x y, x < L.length → y < L.length → ixF px x y < L.length := fun x y hx hy => by
    have hr : px.getD x [] ∈ px := by
      rw [List.getD_eq_getElem?_getD, List.getElem?_eq_getElem (by omega)]; exact List.getElem_mem _
    have h1 := hrow.1 _ hr
    refine hrow.2 _ hr _ ?_
    unfold ixF
    generalize px.getD x [] = r at h1
    rw [List.getD_eq_getElem?_getD, List.getElem?_eq_getElem (by omega)]; exact List.getElem_mem _
  refine ⟨L.length, fun i => ((L.getD i 0 : Nat) : Int), ixF px, ⟨n1, n6, ?_, fun i hi => ?_, fun i j hi hj e => (l3 i j hi hj).2.1 (Int.ofNat.inj e), cell, fun x y hx hy => ?_⟩, fun tv ht => ?_⟩
  · rw [hlot]
    apply List.ext_getElem
    · simp
    · intro i h1 h2
      have : i < L.length := by simpa using h1
      simp [List.getD_eq_getElem?_getD, this]
  · have := l2 _ (mem i hi)
    omega
  · rw [(l3 x y hx hy).1]; rfl
  · -- the law's own numbers
    generalize hlf : (fun i => ((L.getD i 0 : Nat) : Int)) = lf
    have fm : ∀ x y, x < L.length → y < L.length → (((lf x).fmod (lf y) == 0) = true ↔ ixF px x y = y) := fun x y hx hy => by
      rw [← (l3 x y hx hy).2.2, ← hlf]
      have h1 := l2 _ (mem x hx)
      have h2 := l2 _ (mem y hy)
      have e : ((L.getD x 0 : Nat) : Int).fmod ((L.getD y 0 : Nat) : Int) = ((L.getD x 0 % L.getD y 0 : Nat) : Int) := by
        rw [Int.fmod_eq_emod_of_nonneg _ (by (with_reducible exact Int.natCast_nonneg _))]; rfl
      dsimp only
      rw [e]; simp; omega
    have hle : ∀ k, k < L.length → (leftF lf tv L.length k).natAbs ≤ 96 := fun k hk => by
      rw [leftF_eq hk]
      have := lef_le (lf := lf) ht k hk
      have : 2 ^ k ≤ 2 ^ 5 := Nat.pow_le_pow_right (by decide) (by omega)
      omega
    generalize hA : (fun x m => if ixF px x m = m then (1 : Int) else 0) = A
    have hAe : ∀ x m, A x m = if ixF px x m = m then 1 else 0 := fun x m => by rw [← hA]
    have A1 : ∀ x, x < L.length → A x x = 1 := fun x hx => by rw [hAe, if_pos (p1 x hx)]
    have A0' : ∀ x m, x < L.length → m < L.length → x < m → A x m = 0 := fun x m hx hm h => by rw [hAe, if_neg (p2 x m hx hm h)]
    -- made nothing outside the lot
    generalize hB : (fun x m => if x < L.length ∧ m < L.length then A x m else 0) = B
    have hBe : ∀ x m, x < L.length → m < L.length → B x m = A x m := fun x m hx hm => by rw [← hB]; dsimp only; rw [if_pos ⟨hx, hm⟩]
    have B1 : ∀ x, x < L.length → B x x = 1 := fun x hx => by rw [hBe x x hx hx, A1 x hx]
    have B0 : ∀ x m, x < L.length → x < m → B x m = 0 := fun x m hx h => by
      by_cases hm : m < L.length
      · rw [hBe x m hx hm, A0' x m hx hm h]
      · rw [← hB]; dsimp only; rw [if_neg (by omega)]
    have hB01 : ∀ x m, B x m = 0 ∨ B x m = 1 := fun x m => by
      rw [← hB]; dsimp only; rw [hAe]; split <;> (try split) <;> simp
    have tvk : ∀ k, k < L.length → tv k = sumTo (fun m => A k m * leftF lf tv L.length m) L.length := fun k hk => by
      have hk1 : L.length = (k + 1) + (L.length - (k + 1)) := (Nat.add_sub_of_le hk).symm
      rw [hk1, sumTo_tail _ fun i h1 h2 => by
        rw [← hk1, A0' k i hk (by omega) (by (with_reducible exact Nat.lt_of_succ_le (by assumption)))]; simp]
      show tv k = sumTo _ k + _
      dsimp only
      rw [← hk1, A1 k hk, leftF_eq hk, lef_eq, filt_sum]
      have : sumTo (fun j => if ((lf k).fmod (lf j) == 0) = true then lef lf tv j else 0) k = sumTo (fun m => A k m * leftF lf tv L.length m) k := sumTo_cg k fun i hi => by

        rw [hAe, leftF_eq (by (with_reducible exact Nat.lt_trans (by assumption) (by assumption)))]
        by_cases h : ixF px k i = i
        · rw [if_pos ((fm k i hk (by (with_reducible exact Nat.lt_trans (by assumption) (by assumption)))).2 h), if_pos h]; simp
        · rw [if_neg (fun z => h ((fm k i hk (by (with_reducible exact Nat.lt_trans (by assumption) (by assumption)))).1 z)), if_neg h]; simp
      rw [this]; omega
    have hS : ∀ x y, x < L.length → y < L.length → tabF (ixF px) tv x y = Sg B (leftF lf tv L.length) L.length 0 x y := fun x y hx hy => by
      show tv (ixF px x y) = sumFrom _ 0 (L.length - 0)
      rw [Nat.sub_zero, sumFrom_to, tvk _ (cell x y hx hy)]
      refine sumTo_cg _ fun m hm => ?_

      rw [hBe x m hx hm, hBe y m hy hm, hAe, hAe, hAe]
      have := p3 x y m hx hy hm
      by_cases h1 : ixF px x m = m
      · by_cases h2 : ixF px y m = m
        · rw [if_pos (this.2 ⟨h1, h2⟩), if_pos h1, if_pos h2]; simp
        · rw [if_neg (fun z => h2 (this.1 z).2), if_neg h2]; simp
      · rw [if_neg (fun z => h1 (this.1 z).1), if_neg h1]; simp
    have pw : ∀ k, k ≤ 6 → 96 ^ k ≤ 96 ^ 6 := fun k hk => Nat.pow_le_pow_right (by decide) hk
    have hP : ∀ k, k ≤ L.length → (prodTo (leftF lf tv L.length) k).natAbs ≤ 96 ^ 6 := fun k hk => Nat.le_trans (prodTo_le hle k hk) (pw k (by (with_reducible exact Nat.le_trans (by assumption) (by assumption))))
    have hSg : ∀ p x y, p ≤ L.length → x < L.length → y < L.length → (Sg B (leftF lf tv L.length) L.length p x y).natAbs ≤ 576 := fun p x y hp hx hy => by
      have h1 := sumFrom_le (f := fun m => B x m * leftF lf tv L.length m * B y m) (m := 96) (L.length - p) p fun i h1 h2 => by
        have := hle i (by omega)
        rcases hB01 x i with e | e <;> rcases hB01 y i with e2 | e2 <;> rw [e, e2] <;> simp <;> (with_reducible assumption)
      unfold Sg
      have : (L.length - p) * 96 ≤ 6 * 96 := Nat.mul_le_mul_right _ (by omega)
      (with_reducible exact Nat.le_trans (by assumption) (by assumption))
    have hT : ∀ x y, x < L.length → y < L.length → (tabF (ixF px) tv x y).natAbs < 2 ^ 63 := fun x y hx hy => by
      have := ht _ (cell x y hx hy)
      show (tv (ixF px x y)).natAbs < 2 ^ 63
      omega
    have hC := fun j a => comm_le (left := leftF lf tv L.length) (n := L.length) (m := 96) (by decide) hle j a
    refine ⟨fun k hk => ?_, fun k hk => ?_, fun j a hj ha => ?_, fun j a hj ha => ?_, ?_⟩
    · exact detRun_of (A := B) (d := leftF lf tv L.length) (N := L.length) (n' := k + 1) (by (with_reducible exact Nat.succ_le_of_lt (by assumption))) B1 B0 (fun p x y hp hx hy => by
          have := natAbs_mul_le (hP p (by omega)) (hSg p x y (by omega) (by omega) (by omega))
          (with_reducible exact Nat.lt_of_le_of_lt (by assumption) (by decide))) (fun p hp => by have := hP p (by omega); (with_reducible exact Nat.lt_of_le_of_lt (by assumption) (by decide))) (k + 1) 0 _ (by (with_reducible exact Nat.add_comm _ _)) (fun x y _ hx _ hy => by
          rw [hS x y (by omega) (by omega)]; show _ = 1 * _; simp) (fun x y hx hy => hT x y (by omega) (by omega)) (by show (1 : Int) ≠ 0; decide)
    · have := hP k hk; (with_reducible exact Nat.lt_of_le_of_lt (by assumption) (by decide))
    · have := Nat.le_trans (hC j a hj) (pw a (by (with_reducible exact Nat.le_trans (by assumption) (by assumption)))); (with_reducible exact Nat.lt_of_le_of_lt (by assumption) (by decide))
    · have := natAbs_mul_le (Nat.le_trans (hC j a (by (with_reducible exact Nat.le_of_lt (by assumption)))) (pw a (by (with_reducible exact Nat.le_trans (by assumption) (by assumption))))) (hle j hj); (with_reducible exact Nat.lt_of_le_of_lt (by assumption) (by decide))
    · obtain ⟨K, R, r⟩ := hex tv ht (tabF (ixF px) tv) 1 (.inl rfl) (fun x y hx hy ne o => by omega) (fun x y hx hy => by rw [Nat.zero_add, Nat.zero_add]; show tv (ixF px x y) = _; simp)
      exact ⟨K, R, r, run_comm B1 B0 hS r⟩
end Mine
end
-- law
section
open PySem PySem.W PyProof.Rows PySem.Calls
set_option Elab.async false
set_option maxRecDepth 100000
set_option linter.unusedVariables false
set_option maxHeartbeats 1000000
namespace Mine
variable {w : World} {A : Around} {s : Shared} {hb : Heap}

theorem draw_rng {f m k} {many : Int} (h : 0 < many) : 0 ≤ draw f m k many ∧ draw f m k many < many := by
  unfold draw
  exact ⟨Int.fmod_nonneg_of_pos _ h, Int.fmod_lt_of_pos _ h⟩
theorem LN.toLI {h : Heap} {v : Value} {n : Nat} {f : Nat → Int} (L : LN h v ((List.range n).map f)) : ∃ a, v = .ref a ∧ LI h a n f := by
  obtain ⟨a, e, L⟩ := L.li
  rw [List.length_map, List.length_range] at L
  exact ⟨a, e, L.imp fun i v hi h => by simpa [List.getD_eq_getElem?_getD, hi] using h⟩
theorem LN.cons1 {h : Heap} {v : Value} {n : Nat} {f g : Nat → Int} (L : LN h v ([1] ++ (List.range n).map f)) (e0 : g 0 = 1) (e : ∀ i, i < n → g (i + 1) = f i) : ∃ a, v = .ref a ∧ LI h a (n + 1) g := by
  obtain ⟨a, ea, L⟩ := L.li
  refine ⟨a, ea, ?_⟩
  have hz : ([1] ++ (List.range n).map f).length = n + 1 := by simp
  rw [hz] at L
  refine L.imp fun i v hi ⟨t, h⟩ => ⟨t, h.trans ?_⟩
  congr 1
  cases i with
  | zero => rw [e0]; rfl
  | succ i => rw [e i (by (with_reducible exact Nat.lt_of_succ_lt_succ (by assumption)))]; simp [List.getD_eq_getElem?_getD, show i < n by (with_reducible exact Nat.lt_of_succ_lt_succ (by assumption))]
theorem Ev.one1 {prog : Program} {w : World} {A : Around} {s : Shared} {env : Env} {k : Nat} {p pos : Pos} (he : starEach [.Constant (.int 1) k p] env = (false, eval (.Constant (.int 1) k p) env) :: starEach [] env := by rfl) :
    Ev (model prog w) A (eval (.List [.Constant (.int 1) k p] pos) env) s (fun v s' => LN s'.heap v [1]) :=
  (Ev.listD (P := fun vs _ => ∃ t, vs = [.int 1 t]) (EvL.imp (EvL.one (P := IsI 1) Ev.intC IsI.mono he) fun vs s' ⟨a, e, ⟨t, h⟩⟩ _ => ⟨t, by rw [e, h]⟩) (fun vs s' ⟨t, e⟩ => by subst e; simp) (fun _ _ _ h _ => h)).imp fun v s' ⟨l, vs, e, _, hl, ⟨t, h⟩⟩ _ => by
    subst h; exact ⟨l, _, e, hl, .cons _ _ .nil⟩
theorem Ev.gcdE {x y : Int} {t u : Tok} (a : Am (KK w) hb) (up : Up hb s) (hd : A.depth < 900) (hh : A.handled = none) : Ev (Mw w) A (call (.ref 111) [.int x t, .int y u]) s (IsI (Int.gcd x y : Nat)) :=
  fun s₁ x1 Q q => gcd_wp a (up.ext x1) hd hh fun tk s' x => q _ _ ⟨tk, rfl⟩ x
theorem Ev.lenN {prog : Program} {w : World} {A : Around} {s : Shared} {env : Env} {f e : Expr} {pos : Pos} {k : Nat} (hf : Ev (model prog w) A (eval f env) s (IsV (.builtin "len")))
    (h : Ev (model prog w) A (eval e env) s (fun v s' => ∃ l, ∃ vs : List Value, v = .ref l ∧ s'.heap.IsList l vs.toArray ∧ vs.length = k)) (hk : k ≤ 1000)
    (he : eval (.Call f [e] [] pos) env = (do callWith pos (← eval f env) [] (backTo pos (starEach [e] env)) (backToKw pos (keywordEach [] env))) := by rfl)
    (he2 : starEach [e] env = (false, eval e env) :: starEach [] env := by rfl) (hp : (backTo pos (starEach [] env)).any (·.1) = false := by rfl) :
    Ev (model prog w) A (eval (.Call f [e] [] pos) env) s (IsI k) :=
  Ev.callB hf (.cons h .nil (fun v s₁ s₂ ⟨l, vs, e, hl, hk⟩ x => ⟨l, vs, e, isList_keep hl fun o e => x.all _ o e, hk⟩) he2) (fun vs s' ⟨v, r, e1, ⟨l, us, ev, hl, hz⟩, e2⟩ x => by
    subst ev e1 e2
    intro s₁ y Q q
    exact call_len_list (isList_keep hl fun o e => y.all _ o e) (by simp; omega) (q _ _ ⟨_, by simp [hz]; rfl⟩ .toks)) he he2 hp
theorem paired_len {α β : Type} {F : α → β → Prop} : ∀ {l : List α} {ys : List β}, Paired F l ys → ys.length = l.length
  | _, _, .nil => rfl
  | _, _, .cons _ h => by simp [paired_len h]
theorem tt : PySem.Challenge.rw_xm0075_01.Holds := hd (by rfl) (by rfl) (by rfl) (by
  intro w s₀ s₁ mg mb G Y fa o pm cd doc dV kV ho hd' hcd hD hmg hg args vals as hpre hlay hrd hwl hlo
  have he := Dflts.none hD rfl
  subst he
  have KX := kIn_of Y
  have a : Am (KK w) s₁.heap := ⟨⟨_, _, _, _, topRead_of G.T⟩, KX⟩
  have NL := G.T.nolimit
  have key : ∀ (l : Addr) (vs : List Value) (ns : List Int), s₁.heap.IsList l vs.toArray → IntsAre vs ns → ns.length ≤ 63 →
      wpAny (model PySem.Challenge.rw_xm0075_01.row.prog w) callerA (call (.ref fa) [.ref l]) (fun v s' => v = .bool true ∧ Ext s₁ s') (fun _ _ => False) s₁ := by
    intro l vs ns hL hI hlen
    have LS : LI s₁.heap l ns.length (fun i => ns.getD i 0) := by
      obtain ⟨a', e, h⟩ := LN.li (v := .ref l) ⟨l, vs, rfl, hL, hI⟩
      cases e; exact h
    clear hL hI
    refine call_K0 (binds := [(Str.ofString "script", .ref l)]) (by decide) ho hd' NL rfl rfl hcd rfl rfl (of_decide_eq_true (Eq.refl true)) rfl rfl ?_
    intro env s₂ hE N F X own
    have hb1 : Up s₁.heap s₂ := fun b o e => X.1 b o e fun h => h
    have l1 : ldOk env "script" = true := ld_of hE rfl
    have l2 : ldOk env "pool" = true := ld_of hE rfl
    have l3 : ldOk env "numbers" = true := ld_of hE rfl
    have l4 : ldOk env "told" = true := ld_of hE rfl
    have l5 : ldOk env "turn" = true := ld_of hE rfl
    have l6 : ldOk env "lot" = true := ld_of hE rfl
    have l7 : ldOk env "number" = true := ld_of hE rfl
    have l8 : ldOk env "left" = true := ld_of hE rfl
    have l9 : ldOk env "common" = true := ld_of hE rfl
    have l10 : ldOk env "table" = true := ld_of hE rfl
    have l11 : ldOk env "form" = true := ld_of hE rfl
    have l12 : ldOk env "n" = true := ld_of hE rfl
    have l13 : ldOk env "apart" = true := ld_of hE rfl
    have t2 : stOk env "pool" = true := st_of hE rfl
    have t3 : stOk env "numbers" = true := st_of hE rfl
    have t4 : stOk env "told" = true := st_of hE rfl
    have t5 : stOk env "turn" = true := st_of hE rfl
    have t6 : stOk env "lot" = true := st_of hE rfl
    have t7 : stOk env "number" = true := st_of hE rfl
    have t8 : stOk env "left" = true := st_of hE rfl
    have t9 : stOk env "common" = true := st_of hE rfl
    have t10 : stOk env "table" = true := st_of hE rfl
    have t11 : stOk env "form" = true := st_of hE rfl
    have t12 : stOk env "n" = true := st_of hE rfl
    have t13 : stOk env "apart" = true := st_of hE rfl
    have c4 : HasC env "told" := hasC_of hE rfl
    have c6 : HasC env "lot" := hasC_of hE rfl
    have c7 : HasC env "number" := hasC_of hE rfl
    have c9 : HasC env "common" := hasC_of hE rfl
    have c12 : HasC env "n" := hasC_of hE rfl
    have gr : env.kindOf "range" = some .globalImplicit := kd_of hE rfl
    have gl : env.kindOf "len" = some .globalImplicit := kd_of hE rfl
    have g1 : env.kindOf "_law_draw" = some .globalImplicit := kd_of hE rfl
    have g2 : env.kindOf "_law_lot" = some .globalImplicit := kd_of hE rfl
    have g3 : env.kindOf "_law_left" = some .globalImplicit := kd_of hE rfl
    have g4 : env.kindOf "leading_minors" = some .globalImplicit := kd_of hE rfl
    have g5 : env.kindOf "_law_products" = some .globalImplicit := kd_of hE rfl
    have g6 : env.kindOf "smith_form" = some .globalImplicit := kd_of hE rfl
    have g7 : env.kindOf "diagonal" = some .globalImplicit := kd_of hE rfl
    have hh' : (callerA.deeper env).handled = none := rfl
    have hdp : (callerA.deeper env).depth < 600 := by show callerA.depth + 1 < 600; decide
    have hun : (callerA.deeper env).units < 7000 := by show callerA.units + 3 < 7000; decide
    generalize hAA : callerA.deeper env = AA at *
    have LS2 := LS.ext X
    have nwO : ∀ b, Own env b → s₁.heap.get? b = none := own
    have ups : ∀ {s'}, Chg (Own env) s₂ s' → Up s₁.heap s' := fun c => hb1.chg c nwO
    have hn1 : ∀ {b}, s₂.heap.get? b = none → s₁.heap.get? b = none := fun {b} h => X.2 b h
    have nOwn : ∀ {b}, s₂.heap.get? b = none → ¬ Own env b := fun {b} h z => F.exOwn z h
    -- 1. the pool
    refine Seq_wp2 fun KK hKK => (AssignN_wp (P := fun v s' => ∃ lp lc, v = .ref lp ∧ s₂.heap.get? lp = none ∧ s₂.heap.get? lc = none ∧ LV s'.heap lp 2 (PoolP lc 0) ∧ LI s'.heap lc (Nat.min 10 ns.length) (fun i => ns.getD i 0)) N F ?_ t2 ?_)
    · refine (Ev.listD (P := fun vs s' => ∃ lc t, vs = [.ref lc, .int 0 t] ∧ s₂.heap.get? lc = none ∧ LI s'.heap lc (Nat.min 10 ns.length) (fun i => ns.getD i 0)) (EvL.imp (EvL.two (P := fun v s' => ∃ lc, v = .ref lc ∧ s₂.heap.get? lc = none ∧ LI s'.heap lc (Nat.min 10 ns.length) (fun i => ns.getD i 0)) (R := IsI 0) ?_ (by walk_at "ev") (fun _ _ _ ⟨c, e, n, h⟩ x => ⟨c, e, n, h.ext x⟩) IsI.mono) ?_) ?_ ?_).imp ?_
      · refine Ev.compV (n := Nat.min 10 ns.length) (fun i v => ∃ t, v = .int (ns.getD i 0) t) hh' N F (by walk_at "cok") (ItEv.listNew (P := fun i v => ∃ t, v = .int (ns.getD i 0) t) (Ev.sliceToM (k := 10) (by walk_at "ev") LS2 (by walk_at "ev") (by (with_reducible exact Nat.le_trans (by assumption) (by decide))))) .N
          (fun C => tgN (by walk_at "st")) rfl (Nat.le_trans (Nat.min_le_left _ _) (by decide)) ?_
        intro C i ρ₃ s₃ hi x3 zz6 F3 N3
        obtain ⟨_, ⟨tv, rfl⟩, rfl⟩ := zz6
        have up3 := hb1.ext x3
        exact Ev.intF (by walk_at "bi") (by walk_at "ev")
      · (intro vs s' zz2 _; obtain ⟨_, _, rfl, ⟨lc, rfl, h1, h2⟩, ⟨t, rfl⟩⟩ := zz2); exact ⟨lc, t, rfl, h1, h2⟩
      · (intro vs s' zz2; obtain ⟨lc, t, rfl, _⟩ := zz2); simp
      · (intro vs s₃ s₄ zz3 x; obtain ⟨lc, t, e, h1, h2⟩ := zz3); exact ⟨lc, t, e, h1, h2.ext x⟩
      · intro v s' zz2 _
        obtain ⟨lp, vs, rfl, hn, hl, lc, t, rfl, h1, h2⟩ := zz2
        refine ⟨lp, lc, rfl, hn, h1, ⟨_, hl, rfl, fun i v h => ?_⟩, h2⟩
        match i, h with
        | 0, h => simp at h; exact ⟨fun _ => h.symm, fun z => by cases z⟩
        | 1, h => simp at h; exact ⟨fun z => (by cases z), fun _ => ⟨t, h.symm⟩⟩
        | i + 2, h => simp at h
    intro v s₃ s₄ zz3 x3 c34 F4 c24
    obtain ⟨lp, lc, rfl, np, nc, LP3, LC3⟩ := zz3
    refine hKK _ ?_
    have c34' : Chg (Own env) s₃ s₄ := c34.mono fun _ => TgA.own
    have c24' : Chg (Own env) s₂ s₄ := c24.mono fun _ => TgA.own
    have LP4 := LP3.chg c34' (nOwn np)
    have LC4 := LC3.chg c34' (nOwn nc)
    have up4 := ups c24'
    generalize hmc : Nat.min 10 ns.length = mc at *
    have hmc10 : mc ≤ 10 := hmc ▸ Nat.min_le_left _ _
    generalize (fun i => ns.getD i 0) = f at *
    -- 2. numbers, told
    refine Seq_wp2 fun KK hKK => (AssignPN_wp (P := fun v₁ v₂ s' => (∃ ln, v₁ = .ref ln ∧ s₄.heap.get? ln = none ∧ LVP s'.heap ln 0 (fun i v => ∃ t, v = .int (1 + draw f mc i 12) t)) ∧ ∃ td, v₂ = .ref td ∧ s₄.heap.get? td = none ∧ DV s'.heap td 0 (fun _ => none)) hh' N F4 ?_ t3 t4 ?_ (by rw [hE]; rfl) ?_)
    · refine (Ev.tuple (EvL.two (Ev.nilP (P := fun i v => ∃ t, v = .int (1 + draw f mc i 12) t)) Ev.dictE (fun _ _ _ ⟨c, e, n, h⟩ x => ⟨c, e, n, h.ext x⟩) (fun _ _ _ ⟨c, e, n, h⟩ x => ⟨c, e, n, h.ext x⟩)) ?_ ?_).imp ?_
      · (intro vs s' zz2; obtain ⟨_, _, rfl, _⟩ := zz2); simp
      · (intro vs s₅ s₆ zz3 x; obtain ⟨v1, v2, e, ⟨c, e1, n, h⟩, ⟨c', e1', n', h'⟩⟩ := zz3); exact ⟨v1, v2, e, ⟨c, e1, n, h.ext x⟩, ⟨c', e1', n', h'.ext x⟩⟩
      · (intro v s' zz2 _; obtain ⟨T, vs, rfl, _, hT, v1, v2, rfl, h1, h2⟩ := zz2); exact ⟨T, v1, v2, rfl, hT, h1, h2⟩
    · (intro v₁ v₂ s₅ s₆ zz4 x; obtain ⟨⟨c, e1, n, h⟩, ⟨c', e1', n', h'⟩⟩ := zz4); exact ⟨⟨c, e1, n, h.ext x⟩, ⟨c', e1', n', h'.ext x⟩⟩
    intro _ _ s₅ s₆ zz4 x5 c56 F6 c46
    obtain ⟨⟨ln, rfl, nn4, LN5⟩, ⟨td, rfl, nt4, TD5⟩⟩ := zz4
    refine hKK _ ?_
    have nn : s₂.heap.get? ln = none := c24'.2 _ nn4
    have nt : s₂.heap.get? td = none := c24'.2 _ nt4
    have c26 : Chg (Own env) s₂ s₆ := c24'.trans c46
    have LN6 := LN5.chg c56 (nOwn nn)
    have TD6 := TD5.chg c56 (nOwn nt)
    have LP6 := LP4.chg c46 (nOwn np)
    have LC6 := LC4.chg c46 (nOwn nc)
    have pn : lp ≠ ln := fun e => LP4.ne (e ▸ nn4)
    have cn : lc ≠ ln := fun e => LC4.ne (e ▸ nn4)
    have pt : lp ≠ td := fun e => LP4.ne (e ▸ nt4)
    have ct : lc ≠ td := fun e => LC4.ne (e ▸ nt4)
    have pc : lc ≠ lp := by
      intro e; subst e
      obtain ⟨vs', hl', hz', hP'⟩ := LP6
      obtain ⟨us, hl2, hz2, hP2⟩ := LC6
      obtain ⟨o1, ho1, _, _, hd1⟩ := hl'
      obtain ⟨o2, ho2, _, _, hd2⟩ := hl2
      rw [ho1] at ho2; cases ho2
      rw [hd1] at hd2; cases hd2
      have h0 : vs'[0]? = some vs'[0] := by simp [hz']
      have e1 := (hP' 0 _ h0).1 rfl
      obtain ⟨t', e2⟩ := hP2 0 _ h0
      rw [e1] at e2; cases e2
    clear LP3 LC3 LP4 LC4 LN5 TD5 c34 c34' c24 c46 c56 F4 up4 LS2
    -- 3. three numbers
    let Z3 : Addr → Prop := fun b => Own env b ∨ b = lp ∨ b = ln
    have z3own : ∀ {s s' : Shared}, Chg (Own env) s₂ s → Chg Z3 s s' → Chg (Own env) s₂ s' := fun c c' => c.transE c' fun b hb z => z.elim id fun z => z.elim (fun e => absurd (e ▸ np) hb) fun e => absurd (e ▸ nn) hb
    refine Seq_wp (For_wp (mods := Z3) (n := 3) hh' N F6 (tgN t5) (ItEv.rangeN (lo := 0) (hi := 3) (k := 3) (by have up6 := ups c26; walk_at "ev") (by decide) (by decide) (by decide) (by decide) (by decide))
      (fun _ h => h.elim) (fun b z => z.elim (fun z => F6.exOwn z) fun z => z.elim (fun e => e ▸ LP6.ne) fun e => e ▸ LN6.lv.ne) (fun b z => .inl z)
      (fun k ρ s' => (ρ "pool" = some (.ref lp) ∧ ρ "numbers" = some (.ref ln) ∧ ρ "told" = some (.ref td)) ∧ LV s'.heap lp 2 (PoolP lc k) ∧ LVP s'.heap ln k (fun i v => ∃ t, v = .int (1 + draw f mc i 12) t))
      ?_ (fun s' x => ⟨⟨by walk_at "rho", by walk_at "rho", by walk_at "rho"⟩, LP6.ext x, LN6.ext x⟩) ?_ ?_)
    · (intro k ρ s₇ s₈ zz4 _ F7 y; obtain ⟨h, p1, p2⟩ := zz4); exact ⟨h, p1.sys F7 y, p2.sys F7 y⟩
    · intro k ρ₁ ρ₂ s₇ hk zz5 zz6 F7 c67
      obtain ⟨⟨h1, h2, h3⟩, LP7, LN7⟩ := zz5
      obtain ⟨_, ⟨t₁, rfl⟩, rfl⟩ := zz6
      have c27 := z3own c26 c67
      have LC7 := LC6.chg c67 fun z => z.elim (nOwn nc) fun z => z.elim pc cn
      refine Seq_wp (AppendE_wp N (by walk_at "ev") LN7 (by omega) fun s₈ x78 => ?_)
      have up8 := (ups c27).ext x78
      have F8 := F7.ext x78
      refine wpAny_BinOp ((show Ev _ _ (eval (.Constant (.int 1) _ _) _) s₈ (IsI 1) from Ev.intC) s₈ .refl _ fun v1 s₉ ⟨tc, e1⟩ x89 => ?_)
      subst e1
      have up9 := up8.ext x89
      have F9 := F8.ext x89
      refine callG_wp nm_law_draw fn_law_draw a up9 N g1 (P := fun vs _ => ∃ t, vs = [.ref lp, .int 12 t]) (EvL.imp (EvL.two (P := IsV (.ref lp)) (R := IsI 12) (by walk_at "ev") (by walk_at "ev") IsV.mono IsI.mono) fun vs s' ⟨_, _, e, e1, ⟨t, e2⟩⟩ _ => ⟨t, by cases e1; rw [e, e2]⟩) ?_
      intro vs s₁₀ zz2 x910
      obtain ⟨t12, rfl⟩ := zz2
      refine law_draw_wp a (up9.ext x910) (by (with_reducible exact Nat.lt_of_lt_of_le (by assumption) (by decide))) hh' (by (with_reducible exact Nat.le_trans (by assumption) (by decide))) (by omega) (((LP7.ext x78).ext x89).ext x910) (((LC7.ext x78).ext x89).ext x910) (hn1 np) (by decide) ?_
      intro v s₁₁ zz2 LP11 c1011
      obtain ⟨td', rfl⟩ := zz2
      have LN11 := (((LN7.ext x78).ext x89).ext x910).chg c1011 (Ne.symm pn)
      refine add_int ⟨LN11.ext Ext.toks, fun s₁₃ LN13 c => ?_⟩
      have c7_10 : Ext s₇ s₁₀ := (x78.trans x89).trans x910
      have c7_13 : Chg Z3 s₇ s₁₃ := ((Ext.any c7_10).trans (c1011.mono fun b e => .inr (.inl e))).trans ((Ext.any Ext.toks).trans (c.mono fun b e => .inr (.inr e)))
      refine wpAny_execs_nil ⟨c7_13, upd ρ₁ "turn" (.int (0 + (k : Int)) t₁), ?_, ⟨by walk_at "rho", by walk_at "rho", by walk_at "rho"⟩, ?_, LN13.imp fun i v hi h => ?_⟩
      · exact F7.keep fun b o hb e => c.1 b o (c1011.1 b o (c7_10.all b o e) fun e' => nOwn np (e' ▸ hb)) fun e' => nOwn nn (e' ▸ hb)
      · exact (LP11.ext Ext.toks).chg c pn
      · by_cases e : i = k
        · rw [if_pos e] at h; subst e; exact ⟨_, h⟩
        · rw [if_neg e] at h; exact h
    intro ρ₇ s₇ zz2 F7 c67
    obtain ⟨⟨h1, h2, h3⟩, LP7, LN7⟩ := zz2
    have c27 := z3own c26 c67
    have LC7 := LC6.chg c67 fun z => z.elim (nOwn nc) fun z => z.elim pc cn
    have TD7 := TD6.chg c67 fun z => z.elim (nOwn nt) fun z => z.elim (fun e => pt e.symm) fun e => by
      subst e
      obtain ⟨⟨o1, es, ep, ho1, hc1, r⟩, _⟩ := TD6
      obtain ⟨vs', ⟨o2, n2, ho2, hc2, _⟩, _⟩ := LN6
      rw [ho1] at ho2; cases ho2
      rw [hc1] at hc2; injection hc2 with h; exact absurd h (by decide)
    have tn : td ≠ ln := fun e => by
      subst e
      obtain ⟨⟨o1, es, ep, ho1, hc1, r⟩, _⟩ := TD6
      obtain ⟨vs', ⟨o2, n2, ho2, hc2, _⟩, _⟩ := LN6
      rw [ho1] at ho2; cases ho2
      rw [hc1] at hc2; injection hc2 with h; exact absurd h (by decide)
    have up7 := ups c27
    clear LP6 LN6 LC6 TD6
    -- 4. the lot
    have hgr : ∀ i, 1 ≤ 1 + draw f mc i 12 ∧ 1 + draw f mc i 12 ≤ 12 := fun i => by have := draw_rng (f := f) (m := mc) (k := i) (show (0 : Int) < 12 by decide); omega
    obtain ⟨n, lf, ix, LOT, PL⟩ := plain_lot (fun i => 1 + draw f mc i 12) (fun i _ => hgr i)
    refine Seq_wp2 fun KK hKK => (AssignN_wp (P := fun v s' => ∃ ll, v = .ref ll ∧ s₇.heap.get? ll = none ∧ LI s'.heap ll n lf) N F7 (Ev.callG nm_law_lot fn_law_lot a up7 N g2 (EvL.consV (by walk_at "ev") .nil) ?_) t6 ?_)
    · rintro vs s' rfl x
      refine (law_lot_ev (g := fun i => 1 + draw f mc i 12) a (up7.ext x) (by (with_reducible exact Nat.lt_of_lt_of_le (by assumption) (by decide))) hh' (LN7.lv.ext x) (fun i _ => by have := hgr i; omega)).imp ?_
      intro v s'' zz2 _
      obtain ⟨q, rfl, hq, L⟩ := zz2
      rw [LOT.lot] at L
      obtain ⟨a', e, L'⟩ := L.toLI
      cases e
      exact ⟨q, rfl, x.2 _ hq, L'⟩
    intro v s₈ s₉ zz3 x78 c89 F9 c79
    obtain ⟨ll, rfl, nl7, LL8⟩ := zz3
    refine hKK _ ?_
    have nl : s₂.heap.get? ll = none := c27.2 _ nl7
    have c79' : Chg (Own env) s₇ s₉ := c79.mono fun _ => TgA.own
    have c89' : Chg (Own env) s₈ s₉ := c89.mono fun _ => TgA.own
    have c29 := c27.trans c79'
    have LL9 := LL8.chg c89' (nOwn nl)
    have LP9 := LP7.chg c79' (nOwn np)
    have LC9 := LC7.chg c79' (nOwn nc)
    have TD9 := TD7.chg c79' (nOwn nt)
    have lp_l : ll ≠ lp := fun e => LP7.ne (e ▸ nl7)
    have lc_l : ll ≠ lc := fun e => LC7.ne (e ▸ nl7)
    have lt_l : ll ≠ td := fun e => TD7.ne (e ▸ nl7)
    have hn6 := LOT.le
    have hn1' := LOT.pos
    clear LP7 LC7 TD7 LN7 LL8 c89 c79 c67
    -- 5. what is told
    let tv : Nat → Int := fun i => draw f mc (3 + i) 7 - 3
    have htv : ∀ i, -3 ≤ tv i ∧ tv i ≤ 3 := fun i => by have := draw_rng (f := f) (m := mc) (k := 3 + i) (show (0 : Int) < 7 by decide); show -3 ≤ draw f mc (3 + i) 7 - 3 ∧ draw f mc (3 + i) 7 - 3 ≤ 3; omega
    let Z5 : Addr → Prop := fun b => Own env b ∨ b = lp ∨ b = td
    have z5own : ∀ {s s' : Shared}, Chg (Own env) s₂ s → Chg Z5 s s' → Chg (Own env) s₂ s' := fun c c' => c.transE c' fun b hb z => z.elim id fun z => z.elim (fun e => absurd (e ▸ np) hb) fun e => absurd (e ▸ nt) hb
    refine Seq_wp (For_wp (mods := Z5) (n := n) hh' N F9 (tgN t7) (ItEv.list (l := ll) (P := fun i v => ∃ t, v = .int (lf i) t) (by walk_at "ev") LL9)
      (fun b e z => z.elim (fun z => nOwn nl (e ▸ z)) fun z => z.elim (fun e' => lp_l (e ▸ e')) fun e' => lt_l (e ▸ e')) (fun b z => z.elim (fun z => F9.exOwn z) fun z => z.elim (fun e => e ▸ LP9.ne) fun e => e ▸ TD9.ne) (fun b z => .inl z)
      (fun k ρ s' => (ρ "pool" = some (.ref lp) ∧ ρ "lot" = some (.ref ll) ∧ ρ "told" = some (.ref td)) ∧ LV s'.heap lp 2 (PoolP lc (3 + k)) ∧ ∃ fd, DV s'.heap td k fd ∧ ∀ i, i < k → ∃ t, fd (lf i) = some (.int (tv i) t))
      ?_ (fun s' x => ⟨⟨by walk_at "rho", by walk_at "rho", by walk_at "rho"⟩, LP9.ext x, _, TD9.ext x, fun i h => absurd h (Nat.not_lt_zero i)⟩) ?_ ?_)
    · (intro k ρ s₁₀ s₁₁ zz4 _ F10 y; obtain ⟨h, p1, fd, p2, p3⟩ := zz4); exact ⟨h, p1.sys F10 y, fd, p2.sys F10 (nOwn nt) y, p3⟩
    · intro k ρ₁ ρ₂ s₁₀ hk zz5 zz6 F10 c910
      obtain ⟨⟨h1, h2, h3⟩, LP10, fd, TD10, hfd⟩ := zz5
      obtain ⟨_, ⟨t₁, rfl⟩, rfl⟩ := zz6
      have c210 := z5own c29 c910
      have LC10 := LC9.chg c910 fun z => z.elim (nOwn nc) fun z => z.elim pc ct
      have up10 := ups c210
      refine Seq_wp (SetD_wp (R := fun _ _ => True) (a := td) (n := k) (f := fd) (k := lf k) (wpAny_BinOp ?_) (by omega))
      refine callG_wp nm_law_draw fn_law_draw a up10 N g1 (P := fun vs _ => ∃ t, vs = [.ref lp, .int 7 t]) (EvL.imp (EvL.two (P := IsV (.ref lp)) (R := IsI 7) (by walk_at "ev") (by walk_at "ev") IsV.mono IsI.mono) fun vs s' ⟨_, _, e, e1, ⟨t, e2⟩⟩ _ => ⟨t, by cases e1; rw [e, e2]⟩) ?_
      intro vs s₁₁ zz2 x1011
      obtain ⟨t7', rfl⟩ := zz2
      refine law_draw_wp a (up10.ext x1011) (by (with_reducible exact Nat.lt_of_lt_of_le (by assumption) (by decide))) hh' (by (with_reducible exact Nat.le_trans (by assumption) (by decide))) (by omega) (LP10.ext x1011) (LC10.ext x1011) (hn1 np) (by decide) ?_
      intro v s₁₂ zz2 LP12 c1112
      obtain ⟨td', rfl⟩ := zz2
      have F12 : Fm env s₁₂.heap _ := (F10.ext x1011).chg c1112 fun b hb e => nOwn np (e ▸ hb)
      refine (show Ev _ _ (eval (.Constant (.int 3) _ _) _) s₁₂ (IsI 3) from Ev.intC) s₁₂ .refl _ fun v1 s₁₃ ⟨tc, e1⟩ x1213 => ?_
      subst e1
      have TD12 := (TD10.ext x1011).chg c1112 (Ne.symm pt)
      have x12' : Ext s₁₂ { s₁₃ with toks := s₁₃.toks + 1 } := x1213.trans Ext.toks
      have F14 := F12.ext x12'
      refine sub_int ⟨by walk_at "ev", by walk_at "ev", TD12.ext x12', fun s₁₅ s₁₆ x15 TD16 c16 => ?_⟩
      have cc : Chg Z5 s₁₀ s₁₆ := ((Ext.any x1011).trans (c1112.mono fun b e => .inr (.inl e))).trans ((Ext.any (x12'.trans x15)).trans (c16.mono fun b e => .inr (.inr e)))
      refine wpAny_execs_nil ⟨cc, _, (F14.ext x15).chg c16 fun b hb e => nOwn nt (e ▸ hb), ⟨by walk_at "rho", by walk_at "rho", by walk_at "rho"⟩, ((LP12.ext x12').ext x15).chg c16 pt, _, TD16, fun i hi => ?_⟩
      by_cases e : i = k
      · subst e; exact ⟨_, if_pos rfl⟩
      · obtain ⟨t, ht⟩ := hfd i (by omega)
        refine ⟨t, ?_⟩
        show (if lf i = lf k then _ else fd (lf i)) = _
        rw [if_neg fun e' => e (LOT.inj i k (by omega) hk e')]
        exact ht
    intro ρ₁₀ s₁₀ zz2 F10 c910
    obtain ⟨⟨h1, h2, h3⟩, LP10, fd, TD10, hfd⟩ := zz2
    have c210 := z5own c29 c910
    have LC10 := LC9.chg c910 fun z => z.elim (nOwn nc) fun z => z.elim pc ct
    have LL10 := LL9.chg c910 fun z => z.elim (nOwn nl) fun z => z.elim lp_l lt_l
    have up10 := ups c210
    obtain ⟨Pmin, Ppb, Pcb, Pcb2, K, R, Prun, Pdiag⟩ := PL tv fun i _ => htv i
    clear LP9 LC9 TD9 LL9
    -- 6. left and common
    refine Seq_wp2 fun KK hKK => (AssignPN_wp (P := fun v₁ v₂ s' => (∃ q, v₁ = .ref q ∧ s₁₀.heap.get? q = none ∧ LI s'.heap q n (leftF lf tv n)) ∧ ∃ q, v₂ = .ref q ∧ LI s'.heap q (n + 1) (comm (leftF lf tv n) 0)) hh' N F10 ?_ t8 t9 ?_ (by rw [hE]; rfl) ?_)
    · refine (Ev.tuple (EvL.two (P := fun v s' => ∃ q, v = .ref q ∧ s₁₀.heap.get? q = none ∧ LI s'.heap q n (leftF lf tv n)) (R := fun v s' => LN s'.heap v ([1] ++ List.replicate n 0)) ?_ (Ev.addL Ev.one1 (Ev.mulD (by walk_at "ev") (Ev.lenC (by walk_at "bi") (by walk_at "ev") LL10 (by (with_reducible exact Mine.castUp (by assumption) (by decide)))) (by (with_reducible exact Nat.le_trans (by assumption) (by decide)))) (by simp; omega)) (fun _ _ _ ⟨q, e, n, h⟩ x => ⟨q, e, n, h.ext x⟩) (fun _ _ _ h x => h.ext x)) ?_ ?_).imp ?_
      · refine Ev.callG nm_law_left fn_law_left a up10 N g3 (EvL.consV (by walk_at "ev") (EvL.consV (by walk_at "ev") .nil)) ?_
        rintro vs s' rfl x
        refine (law_left_ev (tv := tv) a (up10.ext x) (by (with_reducible exact Nat.lt_of_lt_of_le (by assumption) (by decide))) hh' (by (with_reducible exact Nat.le_trans (by assumption) (by decide))) (LL10.ext x) (TD10.ext x) (fun i hi => by have := LOT.rng i hi; omega) hfd).imp ?_
        intro v s'' zz2 _
        obtain ⟨q, rfl, hq, L⟩ := zz2
        obtain ⟨a', e, L'⟩ := L.li
        cases e
        rw [leftL_len] at L'
        exact ⟨q, rfl, x.2 _ hq, L'⟩
      · (intro vs s' zz2; obtain ⟨_, _, rfl, _⟩ := zz2); simp
      · (intro vs s₅ s₆ zz3 x; obtain ⟨v1, v2, e, ⟨q, e1, n, h⟩, h'⟩ := zz3); exact ⟨v1, v2, e, ⟨q, e1, n, h.ext x⟩, h'.ext x⟩
      · intro v s' zz2 _
        obtain ⟨T, vs, rfl, _, hT, v1, v2, rfl, h1, h2⟩ := zz2
        refine ⟨T, v1, v2, rfl, hT, h1, ?_⟩
        refine LN.cons1 (n := n) (f := fun _ => 0) (by rwa [show (List.range n).map (fun _ => (0 : Int)) = List.replicate n 0 from by simp [List.map_const']]) rfl fun i _ => rfl
    · (intro v₁ v₂ s₅ s₆ zz4 x; obtain ⟨⟨c, e1, n, h⟩, ⟨c', e1', h'⟩⟩ := zz4); exact ⟨⟨c, e1, n, h.ext x⟩, ⟨c', e1', h'.ext x⟩⟩
    intro _ _ s₁₁ s₁₂ zz4 x1011 c1112 F12 c1012
    obtain ⟨⟨lw, rfl, nw10, LW11⟩, ⟨lcm, rfl, LM11⟩⟩ := zz4
    refine hKK _ ?_
    have nw : s₂.heap.get? lw = none := c210.2 _ nw10
    have c212 : Chg (Own env) s₂ s₁₂ := c210.trans c1012
    have LW12 := LW11.chg c1112 (nOwn nw)
    have LM12 := LM11.chg c1112 (LM11.notOwn (F10.ext x1011))
    have LP12 := LP10.chg c1012 (nOwn np)
    have LC12 := LC10.chg c1012 (nOwn nc)
    have LL12 := LL10.chg c1012 (nOwn nl)
    have TD12 := TD10.chg c1012 (nOwn nt)
    clear LP10 LC10 LL10 TD10 LW11 LM11 c1112 c1012
    generalize hleft : leftF lf tv n = left at *
    -- 7. the common divisors
    have up12 := ups c212
    refine Seq_wp (For_wp (mods := Own env) (n := n) hh' N F12 (tgN t7) (ItEv.list (l := lw) (P := fun i v => ∃ t, v = .int (left i) t) (by walk_at "ev") LW12)
      (fun b e z => nOwn nw (e ▸ z)) (fun b z => F12.exOwn z) (fun b z => z)
      (fun k ρ s' => (ρ "pool" = some (.ref lp) ∧ ρ "lot" = some (.ref ll) ∧ ρ "told" = some (.ref td) ∧ ρ "left" = some (.ref lw)) ∧ ∃ q, ρ "common" = some (.ref q) ∧ LI s'.heap q (n + 1) (comm left k))
      ?_ (fun s' x => ⟨⟨by walk_at "rho", by walk_at "rho", by walk_at "rho", by walk_at "rho"⟩, lcm, by walk_at "rho", LM12.ext x⟩) ?_ ?_)
    · (intro k ρ s₁₃ s₁₄ zz4 _ F13 y; obtain ⟨h, q, h2, L⟩ := zz4); exact ⟨h, q, h2, L.sys F13 y⟩
    · intro k ρ₁ ρ₂ s₁₃ hk zz5 zz6 F13 c1213
      obtain ⟨⟨h1, h2, h3, h4⟩, q, h5, L13⟩ := zz5
      obtain ⟨_, ⟨t₁, rfl⟩, rfl⟩ := zz6
      have c213 := c212.trans c1213
      have up13 := ups c213
      refine Seq_wp2 fun KK hKK => (AssignN_wp (P := fun v s' => ∃ q, v = .ref q ∧ LI s'.heap q (n + 1) (comm left (k + 1))) N F13 ?_ t9 ?_)
      · refine (Ev.addL (ns := [1]) (ms := (List.range n).map fun i => ((Int.gcd (comm left k (i + 1)) (comm left k i * left k) : Nat) : Int)) Ev.one1 ?_ (by simp; omega)).imp fun v s' h _ => h.cons1 rfl fun i hi => rfl
        refine (Ev.compV (n := n) (fun i v => ∃ t, v = .int ((Int.gcd (comm left k (i + 1)) (comm left k i * left k) : Nat) : Int) t) hh' N F13 (by walk_at "cok")
          (ItEv.rangeN (lo := 1) (hi := (n + 1 : Nat)) (k := n) (Ev.range2 (by walk_at "bi") (by walk_at "ev") (Ev.lenC (by walk_at "bi") (by walk_at "ev") L13 (by omega))) (by omega) (by decide) (by decide) (by omega) (by (with_reducible exact Mine.castLo (by decide)))) .N
          (fun C => tgN (by walk_at "st")) rfl (by (with_reducible exact Nat.le_trans (by assumption) (by decide))) ?_).imp fun v s' ⟨D, e, _, L⟩ _ => e ▸ LV.ints (f := fun i => ((Int.gcd (comm left k (i + 1)) (comm left k i * left k) : Nat) : Int)) L
        intro C i ρ₃ s₁₄ hi x14 zz6 F14 N14
        obtain ⟨_, ⟨tv', rfl⟩, rfl⟩ := zz6
        have e0 : ((1 : Int) + (i : Int)) = ((i + 1 : Nat) : Int) := by omega
        rw [e0] at F14
        have up14 := up13.ext x14
        refine Ev.callG nm_law_greatest fn_law_greatest a up14 N14 (by walk_at "gl") (EvL.two (P := IsI (comm left k (i + 1))) (R := IsI (comm left k i * left k)) ?_ (Ev.mul ?_ (by walk_at "ev") ?_) IsI.mono IsI.mono) ?_
        · exact Ev.item (k := ((i + 1 : Nat) : Int)) (by walk_at "ev") (by walk_at "ev") (L13.ext x14) (by (with_reducible exact Int.natCast_nonneg _)) (by omega) (by omega)
        · exact Ev.item (k := (i : Int)) (by walk_at "ev") (Ev.castI (Ev.sub (by walk_at "ev") (by walk_at "ev")) (by omega)) (L13.ext x14) (by (with_reducible exact Int.natCast_nonneg _)) (by omega) (by omega)
        · exact mulOk_l (Pcb k i (by (with_reducible exact Nat.le_of_lt (by assumption))) (by (with_reducible exact Nat.le_of_lt (by assumption))))
        · intro vs s' zz2 x
          obtain ⟨_, _, rfl, ⟨t1, rfl⟩, ⟨t2, rfl⟩⟩ := zz2
          exact law_greatest_ev 63 a (up14.ext x) (by omega) hh' (Pcb2 k i hk (by (with_reducible exact Nat.le_of_lt (by assumption))))
      intro v s₁₄ s₁₅ zz3 x14 c1415 F15 c1315
      obtain ⟨q', rfl, L14⟩ := zz3
      refine hKK _ ?_
      have c1315' : Chg (Own env) s₁₃ s₁₅ := c1315.mono fun _ => TgA.own
      exact wpAny_execs_nil ⟨c1315', _, F15, ⟨by walk_at "rho", by walk_at "rho", by walk_at "rho", by walk_at "rho"⟩, q', by walk_at "rho", L14.chg (c1415.mono fun _ => TgA.own) (L14.notOwn (F13.ext x14))⟩
    intro ρ₁₃ s₁₃ zz2 F13 c1213
    obtain ⟨⟨h1, h2, h3, h4⟩, lcm', h5, LM13⟩ := zz2
    have c213 := c212.trans c1213
    have LP13 := LP12.chg c1213 (nOwn np)
    have LC13 := LC12.chg c1213 (nOwn nc)
    have LL13 := LL12.chg c1213 (nOwn nl)
    have TD13 := TD12.chg c1213 (nOwn nt)
    have LW13 := LW12.chg c1213 (nOwn nw)
    have up13 := ups c213
    clear LP12 LC12 LL12 TD12 LW12 LM12
    -- 8. the table
    refine Seq_wp2 fun KK hKK => (AssignCompR_wp (n := n) (m := n) (tabF ix tv) hh' N F13 (by walk_at "cok") (ItEv.list (l := ll) (P := fun i v => ∃ t, v = .int (lf i) t) (by walk_at "ev") LL13) .N (fun C => tgN (by walk_at "st")) rfl (by (with_reducible exact Nat.le_trans (by assumption) (by decide))) ?_ (by intro _; rfl) t10 (by rw [hE]; rfl) ?_)
    · intro C i ρ₃ s₁₄ hi x14 zz6 F14 N14
      obtain ⟨_, ⟨tv1, rfl⟩, rfl⟩ := zz6
      refine Ev.compV (n := n) (fun j v => ∃ t, v = .int (tabF ix tv i j) t) hh' N14 F14 (by walk_at "cok") (ItEv.list (l := ll) (P := fun i v => ∃ t, v = .int (lf i) t) (by walk_at "ev") (LL13.ext x14)) .N (fun C => tgN (by walk_at "st")) rfl (by (with_reducible exact Nat.le_trans (by assumption) (by decide))) ?_
      intro C' j ρ₄ s₁₅ hj x15 zz6 F15 N15
      obtain ⟨_, ⟨tv2, rfl⟩, rfl⟩ := zz6
      have up15 := (up13.ext x14).ext x15
      obtain ⟨tg, hg'⟩ := hfd (ix i j) (LOT.ixl i j hi hj)
      rw [LOT.ixg i j hi hj] at hg'
      refine (Ev.itemD (f := fd) (n := n) (k := ((Int.gcd (lf i) (lf j) : Nat) : Int)) (by walk_at "ev") (Ev.callG nm_gcd fn_gcd a up15 N15 (by walk_at "gl") (EvL.consV (by walk_at "ev") (EvL.consV (by walk_at "ev") .nil)) ?_) ((TD13.ext x14).ext x15) hg').imp fun v s' e _ => ⟨tg, e⟩
      rintro vs s' rfl x
      exact Ev.gcdE a (up15.ext x) (by (with_reducible exact Nat.lt_of_lt_of_le (by assumption) (by decide))) hh'
    intro lt rt s₁₄ MT14 ft F14 c1314
    refine hKK _ ?_
    have nft : ∀ b, Foot lt n rt b → s₂.heap.get? b = none := fun b h => c213.2 b (ft b h)
    have c1314' : Chg (Own env) s₁₃ s₁₄ := c1314.mono fun _ => TgA.own
    have c214 := c213.trans c1314'
    have LP14 := LP13.chg c1314' (nOwn np)
    have LC14 := LC13.chg c1314' (nOwn nc)
    have LL14 := LL13.chg c1314' (nOwn nl)
    have LW14 := LW13.chg c1314' (nOwn nw)
    have LM14 := LM13.chg c1314' (LM13.notOwn F13)
    have up14 := ups c214
    clear LP13 LC13 LL13 TD13 LW13 LM13 c1314
    -- 9. the minors
    refine Seq_wp (If_wp (c := false) ?_ (fun h => nomatch h) ?_)
    · refine (show (!decide ((List.range n).map (fun i => prodTo left (i + 1)) = (List.range n).map (fun i => prodTo left (i + 1)))) = false from by simp) ▸ Tst.neL ?_ ?_ (by rw [← hAA]; show callerA.units + 3 + 64 < 9900; decide)
      · refine (Ev.callG nm_leading_minors fn_leading_minors a up14 N g4 (EvL.consV (by walk_at "ev") .nil) (R := fun v s' => ∃ q, v = .ref q ∧ LI s'.heap q n (fun i => prodTo left (i + 1))) ?_).imp fun v s' ⟨q, e, L⟩ _ => e ▸ LV.ints (f := fun i => prodTo left (i + 1)) L
        rintro vs s' rfl x
        exact (leading_minors_ev (D := fun i => prodTo left (i + 1)) a (up14.ext x) (by (with_reducible exact Nat.lt_of_lt_of_le (by assumption) (by decide))) (by (with_reducible exact Nat.lt_of_lt_of_le (by assumption) (by decide))) hh' (by (with_reducible exact Nat.le_trans (by assumption) (by decide))) (MT14.ext x) Pmin (fun k hk => Ppb (k + 1) hk)).imp fun v s'' ⟨q, e, _, L⟩ _ => ⟨q, e, L⟩
      · refine (Ev.callG nm_law_products fn_law_products a up14 N g5 (EvL.consV (by walk_at "ev") .nil) (R := fun v s' => ∃ q, v = .ref q ∧ LI s'.heap q n (fun i => prodTo left (i + 1))) ?_).imp fun v s' ⟨q, e, L⟩ _ => e ▸ LV.ints (f := fun i => prodTo left (i + 1)) L
        rintro vs s' rfl x
        exact (law_products_ev (f := left) a (up14.ext x) (by (with_reducible exact Nat.lt_of_lt_of_le (by assumption) (by decide))) hh' (by (with_reducible exact Nat.le_trans (by assumption) (by decide))) (LW14.ext x) (fun k hk => Ppb k (by (with_reducible exact Nat.le_of_lt (by assumption))))).imp fun v s'' ⟨q, e, _, L⟩ _ => ⟨q, e, L⟩
    intro _ s₁₅ x15
    refine wpAny_execs_nil ?_
    have F15 := F14.ext x15
    have up15 := up14.ext x15
    -- 10. the form
    refine Seq_wp2 fun KK hKK => (AssignN_wp (P := fun v s' => ∃ ls rs, v = .ref ls ∧ Mx s'.heap ls n n rs R) N F15 ?_ t11 ?_)
    · refine Ev.itemTN (k := 0) (P := fun vs s' => ∃ ls rs lu lv, vs = [Value.ref ls, .ref lu, .ref lv] ∧ Mx s'.heap ls n n rs R) ?_ (by walk_at "ev") (by decide) (by (intro vs s' zz2; obtain ⟨_, _, _, _, rfl, _⟩ := zz2); simp) ?_
      · refine Ev.callG nm_smith_form fn_smith_form a up15 N g6 (EvL.two (P := IsV (.ref lt)) (R := IsI n) (by walk_at "ev") (Ev.lenC (by walk_at "bi") (by walk_at "ev") (LL14.ext x15) (by (with_reducible exact Mine.castUp (by assumption) (by decide)))) IsV.mono IsI.mono) ?_
        intro vs s' zz2 x
        obtain ⟨_, _, rfl, e1, ⟨t1, rfl⟩⟩ := zz2
        cases e1
        exact (smith_form_ev a (up15.ext x) (by (with_reducible exact Nat.lt_of_lt_of_le (by assumption) (by decide))) (by (with_reducible exact Nat.lt_of_lt_of_le (by assumption) (by decide))) hh' (by (with_reducible exact Nat.le_trans (by assumption) (by decide))) ((MT14.ext x15).ext x) Prun).imp fun v s'' ⟨T, ls, rs, lu, lv, e, hT, m⟩ _ => ⟨T, _, e, hT, ls, rs, lu, lv, rfl, m⟩
      · intro vs s' s'' v zz4 x hv
        obtain ⟨ls, rs, lu, lv, rfl, m⟩ := zz4
        simp at hv
        exact ⟨ls, rs, hv.symm, m.ext x⟩
    intro v s₁₆ s₁₇ zz3 x1516 c1617 F17 c1517
    obtain ⟨lfo, rfo, rfl, MF16⟩ := zz3
    refine hKK _ ?_
    have c1617' : Chg (Own env) s₁₆ s₁₇ := c1617.mono fun _ => TgA.own
    have c1417 : Chg (Own env) s₁₄ s₁₇ := (Ext.any x15).trans (c1517.mono fun _ => TgA.own)
    have c217 := c214.trans c1417
    have MF17 := MF16.chg c1617' fun b f => MF16.notOwn (F15.ext x1516) f
    have LP17 := LP14.chg c1417 (nOwn np)
    have LC17 := LC14.chg c1417 (nOwn nc)
    have LL17 := LL14.chg c1417 (nOwn nl)
    have LM17 := LM14.chg c1417 (LM14.notOwn F14)
    have up17 := ups c217
    clear LP14 LC14 LL14 LW14 LM14 MT14 MF16 c1617 c1517
    -- 11. the invariants
    refine Seq_wp (If_wp (c := false) ?_ (fun h => nomatch h) ?_)
    · refine (show (!decide ((List.range n).map (fun i => prodTo (fun i => R i i) (i + 1)) = (List.range n).map (fun i => prodTo (fun i => R i i) (i + 1)))) = false from by simp) ▸ Tst.neL ?_ ?_ (by rw [← hAA]; show callerA.units + 3 + 64 < 9900; decide)
      · refine (Ev.callG nm_law_products fn_law_products a up17 N g5 (EvL.one (P := fun v s' => ∃ q, v = .ref q ∧ LI s'.heap q n (fun i => R i i)) ?_ (fun _ _ _ ⟨q, e, L⟩ x => ⟨q, e, L.ext x⟩)) (R := fun v s' => ∃ q, v = .ref q ∧ LI s'.heap q n (fun i => prodTo (fun i => R i i) (i + 1))) ?_).imp fun v s' ⟨q, e, L⟩ _ => e ▸ LV.ints (f := fun i => prodTo (fun i => R i i) (i + 1)) L
        · refine Ev.callG nm_diagonal fn_diagonal a up17 N g7 (EvL.two (P := IsV (.ref lfo)) (R := IsI n) (by walk_at "ev") (Ev.lenC (by walk_at "bi") (by walk_at "ev") LL17 (by (with_reducible exact Mine.castUp (by assumption) (by decide)))) IsV.mono IsI.mono) ?_
          intro vs s' zz2 x
          obtain ⟨_, _, rfl, e1, ⟨t1, rfl⟩⟩ := zz2
          cases e1
          exact (diagonal_ev a (up17.ext x) (by (with_reducible exact Nat.lt_of_lt_of_le (by assumption) (by decide))) hh' (by (with_reducible exact Nat.le_trans (by assumption) (by decide))) (MF17.ext x)).imp fun v s'' ⟨q, e, _, L⟩ _ => ⟨q, e, L⟩
        · intro vs s' zz2 x
          obtain ⟨_, rfl, q, rfl, L⟩ := zz2
          refine (law_products_ev (f := fun i => R i i) a (up17.ext x) (by (with_reducible exact Nat.lt_of_lt_of_le (by assumption) (by decide))) hh' (by (with_reducible exact Nat.le_trans (by assumption) (by decide))) L (fun k hk => ?_)).imp fun v s'' ⟨q, e, _, L⟩ _ => ⟨q, e, L⟩
          cases k with
          | zero => show (1 : Int).natAbs < 2 ^ 63; decide
          | succ k => rw [Pdiag k (by (with_reducible exact Nat.lt_of_succ_lt (by assumption)))]; exact Pcb n (k + 1) (by (with_reducible exact Nat.le_refl _)) (by (with_reducible exact Nat.le_of_lt (by assumption)))
      · refine (Ev.sliceFrom (k := 1) (by walk_at "ev") LM17 (by walk_at "ev") (by (with_reducible exact Nat.le_add_left _ _)) (by (with_reducible exact Nat.le_trans (Nat.succ_le_succ (by assumption)) (by decide)))).imp fun v s' ⟨D, e, _, L⟩ _ => ?_
        subst e
        refine LN.ofLI (n := n) (f := fun i => comm left n (1 + i)) (by simpa using L) ?_
        refine List.map_congr_left fun i hi => ?_
        rw [Pdiag i (by simpa using hi), Nat.add_comm]
    intro _ s₁₈ x18
    refine wpAny_execs_nil ?_
    have F18 := F17.ext x18
    have c218 := c217.trans (Ext.any (Z := Own env) x18)
    have up18 := ups c218
    have LP18 := LP17.ext x18
    have LC18 := LC17.ext x18
    -- 12. n
    have hdr := draw_rng (f := f) (m := mc) (k := 3 + n) (show (0 : Int) < 4 by decide)
    obtain ⟨m5, hm5, hm2, hm6⟩ : ∃ m5 : Nat, 2 + draw f mc (3 + n) 4 = m5 ∧ 2 ≤ m5 ∧ m5 ≤ 5 := ⟨(2 + draw f mc (3 + n) 4).toNat, by omega, by omega, by omega⟩
    refine Seq_wp (wpAny_Assign_Name (wpAny_BinOp ((show Ev _ _ (eval (.Constant (.int 2) _ _) _) s₁₈ (IsI 2) from Ev.intC) s₁₈ .refl _ fun v1 s₁₉ ⟨tc, e1⟩ x1819 => ?_)) (by rw [hE]; rfl))
    subst e1
    have F19 := F18.ext x1819
    have up19 := up18.ext x1819
    refine callG_wp nm_law_draw fn_law_draw a up19 N g1 (P := fun vs _ => ∃ t, vs = [.ref lp, .int 4 t]) (EvL.imp (EvL.two (P := IsV (.ref lp)) (R := IsI 4) (by walk_at "ev") (by walk_at "ev") IsV.mono IsI.mono) fun vs s' ⟨_, _, e, e1, ⟨t, e2⟩⟩ _ => ⟨t, by cases e1; rw [e, e2]⟩) ?_
    intro vs s₂₀ zz2 x1920
    obtain ⟨t4', rfl⟩ := zz2
    refine law_draw_wp a (up19.ext x1920) (by (with_reducible exact Nat.lt_of_lt_of_le (by assumption) (by decide))) hh' (by (with_reducible exact Nat.le_trans (by assumption) (by decide))) (by omega) ((LP18.ext x1819).ext x1920) ((LC18.ext x1819).ext x1920) (hn1 np) (by decide) ?_
    intro v s₂₁ zz2 LP21 c2021
    obtain ⟨td', rfl⟩ := zz2
    refine add_int ?_
    rw [hm5]
    have c218_22 : Chg (fun b => Own env b ∨ b = lp) s₁₈ { s₂₁ with toks := s₂₁.toks + 1 } := ((Ext.any (x1819.trans x1920)).trans (c2021.mono fun b e => .inr e)).trans (Ext.any Ext.toks)
    have c222 : Chg (Own env) s₂ { s₂₁ with toks := s₂₁.toks + 1 } := c218.transE c218_22 fun b hb z => z.elim id fun e => absurd (e ▸ np) hb
    have F21 : Fm env s₂₁.heap _ := (F19.ext x1920).chg c2021 fun b hb e => nOwn np (e ▸ hb)
    have F22 := F21.ext (Ext.toks (s := s₂₁) (d := s₂₁.drawn) (t := s₂₁.toks + 1))
    clear F21
    generalize ({ s₂₁ with toks := s₂₁.toks + 1 } : Shared) = s₂₂ at *
    refine F22.store N t12 fun s₂₃ F23 c2223 => ?_
    have c223 := c222.trans (c2223.mono fun _ => TgA.own)
    have up23 := ups c223
    clear c2223 F22 c222 c218_22
    -- 13. apart
    refine Seq_wp2 fun KK hKK => (AssignN_wp N F23 (Ev.nilP (P := fun i v => ∃ t, v = .int (apartF i) t)) t13 ?_)
    intro v s₂₄ s₂₅ zz3 x2324 c2425 F25 c2325
    obtain ⟨la, rfl, na23, LA24⟩ := zz3
    refine hKK _ ?_
    have na : s₂.heap.get? la = none := c223.2 _ na23
    have c225 := c223.trans (c2325.mono fun _ => TgA.own)
    have LA25 := LA24.chg (c2425.mono fun _ => TgA.own) (nOwn na)
    have up25 := ups c225
    let Z13 : Addr → Prop := fun b => Own env b ∨ b = la
    have z13own : ∀ {s s' : Shared}, Chg (Own env) s₂ s → Chg Z13 s s' → Chg (Own env) s₂ s' := fun c c' => c.transE c' fun b hb z => z.elim id fun e => absurd (e ▸ na) hb
    refine Seq_wp (For_wp (mods := Z13) (n := m5) hh' N F25 (tgN t7) (ItEv.rangeN (lo := 1) (hi := (m5 : Int) + 1) (k := m5) (Ev.range2 (by walk_at "bi") (by walk_at "ev") (Ev.add (by walk_at "ev") (by walk_at "ev"))) (by omega) (by decide) (by decide) (by omega) (by omega))
      (fun _ h => h.elim) (fun b z => z.elim (fun z => F25.exOwn z) fun e => e ▸ LA25.lv.ne) (fun b z => .inl z)
      (fun k ρ s' => (∃ t, ρ "n" = some (.int m5 t)) ∧ ρ "apart" = some (.ref la) ∧ LVP s'.heap la k (fun i v => ∃ t, v = .int (apartF i) t))
      ?_ (fun s' x => ⟨⟨_, by walk_at "rho"⟩, by walk_at "rho", LA25.ext x⟩) ?_ ?_)
    · (intro k ρ s₂₆ s₂₇ zz4 _ F26 y; obtain ⟨h, h2, p⟩ := zz4); exact ⟨h, h2, p.sys F26 y⟩
    · intro k ρ₁ ρ₂ s₂₆ hk zz5 zz6 F26 c2526
      obtain ⟨⟨tn', h1⟩, h2, LA26⟩ := zz5
      obtain ⟨_, ⟨t₁, rfl⟩, rfl⟩ := zz6
      have up26 := ups (z13own c225 c2526)
      have e0 : ((1 : Int) + (k : Int)) = ((k + 1 : Nat) : Int) := by omega
      rw [e0] at F26
      refine Seq_wp2 fun KK hKK => (Append_wp N (by walk_at "ev") LA26 (by omega) (R := IsI (apartF k)) (Ev.lenN (by walk_at "bi") ?_ ?_) ?_)
      · refine (Ev.compF (n := k + 1) (fun j => (Int.gcd ((1 + j : Nat) : Int) ((1 + k : Nat) : Int) : Int) == 1) (fun j v => True) hh' N F26 (by walk_at "cok")
          (ItEv.rangeN (lo := 1) (hi := ((k + 1 : Nat) : Int) + 1) (k := k + 1) (Ev.range2 (by walk_at "bi") (by walk_at "ev") (Ev.add (by walk_at "ev") (by walk_at "ev"))) (by omega) (by decide) (by decide) (by omega) (by omega)) .N (fun C => tgN (by walk_at "st")) rfl (by omega) ?_).imp ?_
        · intro C j ρ₃ s₂₇ hj x27 zz6 F27 N27
          obtain ⟨_, ⟨tj, rfl⟩, rfl⟩ := zz6
          have e0' : ((1 : Int) + (j : Int)) = ((1 + j : Nat) : Int) := by omega
          rw [e0'] at F27
          have up27 := up26.ext x27
          refine ⟨?_, fun _ => (show Ev _ _ _ s₂₇ (IsI ((1 + j : Nat) : Int)) by walk_at "ev").imp fun _ _ _ _ => trivial⟩
          have ek : ((1 + k : Nat) : Int) = ((k + 1 : Nat) : Int) := by omega
          rw [ek]
          refine Tst.eq (Ev.callG nm_law_greatest fn_law_greatest a up27 N27 (by walk_at "gl") (EvL.two (P := IsI ((1 + j : Nat) : Int)) (R := IsI ((k + 1 : Nat) : Int)) (by walk_at "ev") (by walk_at "ev") IsI.mono IsI.mono) ?_) (by walk_at "ev")
          intro vs s' zz2 x
          obtain ⟨_, _, rfl, ⟨t1, rfl⟩, ⟨t2, rfl⟩⟩ := zz2
          exact law_greatest_ev 4 a (up27.ext x) (by omega) hh' (by omega)
        · intro v s' zz2 _
          obtain ⟨D, ys, rfl, _, hl, hp⟩ := zz2
          exact ⟨D, ys, rfl, hl, paired_len hp⟩
      · exact Nat.le_trans (List.length_filter_le _ _) (by simp; omega)
      intro v s₂₇ s₂₈ zz3 x2627 LA28 _ c2628
      obtain ⟨t', rfl⟩ := zz3
      refine hKK _ ?_
      refine wpAny_execs_nil ⟨c2628.mono fun b e => .inr e, _, F26.chg c2628 fun b hb e => nOwn na (e ▸ hb), ⟨tn', by walk_at "rho"⟩, by walk_at "rho", LA28.imp fun i v hi h => ?_⟩
      by_cases e : i = k
      · rw [if_pos e] at h; subst e; exact ⟨t', h⟩
      · rw [if_neg e] at h; exact h
    intro ρ₂₆ s₂₆ zz2 F26 c2526
    obtain ⟨⟨tn', h1⟩, h2, LA26⟩ := zz2
    have c226 := z13own c225 c2526
    have up26 := ups c226
    obtain ⟨Amin, Apb⟩ := plain_apart m5 hm6
    -- 14. the answer
    refine Seq_wp (Ret_wp (P := IsB true) ((show decide ((List.range m5).map (fun i => prodTo apartF (i + 1)) = (List.range m5).map (fun i => prodTo apartF (i + 1))) = true from by simp) ▸ Ev.eqL ?_ ?_ (by rw [← hAA]; show callerA.units + 3 + 64 < 9900; decide)) ?_)
    · refine (Ev.callG nm_leading_minors fn_leading_minors a up26 N g4 (EvL.one (P := fun v s' => ∃ a r, v = .ref a ∧ Mx s'.heap a m5 m5 r gcdF ∧ ∀ b, Foot a m5 r b → s₂₆.heap.get? b = none) ?_ (fun _ _ _ ⟨q, r, e, m, h⟩ x => ⟨q, r, e, m.ext x, h⟩)) (R := fun v s' => ∃ q, v = .ref q ∧ LI s'.heap q m5 (fun i => prodTo apartF (i + 1))) ?_).imp fun v s' ⟨q, e, L⟩ _ => e ▸ LV.ints (f := fun i => prodTo apartF (i + 1)) L
      · refine Ev.compR (n := m5) (m := m5) gcdF hh' N F26 (by walk_at "cok") (ItEv.rangeN (lo := 1) (hi := (m5 : Int) + 1) (k := m5) (Ev.range2 (by walk_at "bi") (by walk_at "ev") (Ev.add (by walk_at "ev") (by walk_at "ev"))) (by omega) (by decide) (by decide) (by omega) (by omega)) .N (fun C => tgN (by walk_at "st")) rfl (by (with_reducible exact Nat.le_trans (by assumption) (by decide))) ?_
        intro C i ρ₃ s₂₇ hi x27 zz6 F27 N27
        obtain ⟨_, ⟨tj, rfl⟩, rfl⟩ := zz6
        have e0' : ((1 : Int) + (i : Int)) = ((1 + i : Nat) : Int) := by omega
        rw [e0'] at F27
        have up27 := up26.ext x27
        refine Ev.compV (n := m5) (fun j v => ∃ t, v = .int (gcdF i j) t) hh' N27 F27 (by walk_at "cok") (ItEv.rangeN (lo := 1) (hi := (m5 : Int) + 1) (k := m5) (Ev.range2 (by walk_at "bi") (by walk_at "ev") (Ev.add (by walk_at "ev") (by walk_at "ev"))) (by omega) (by decide) (by decide) (by omega) (by omega)) .N (fun C => tgN (by walk_at "st")) rfl (by (with_reducible exact Nat.le_trans (by assumption) (by decide))) ?_
        intro C' j ρ₄ s₂₈ hj x28 zz6 F28 N28
        obtain ⟨_, ⟨tj2, rfl⟩, rfl⟩ := zz6
        have e1' : ((1 : Int) + (j : Int)) = ((1 + j : Nat) : Int) := by omega
        rw [e1'] at F28
        have up28 := up27.ext x28
        refine Ev.callG nm_gcd fn_gcd a up28 N28 (by walk_at "gl") (EvL.two (P := IsI ((1 + i : Nat) : Int)) (R := IsI ((1 + j : Nat) : Int)) (by walk_at "ev") (by walk_at "ev") IsI.mono IsI.mono) ?_
        intro vs s' zz2 x
        obtain ⟨_, _, rfl, ⟨t1, rfl⟩, ⟨t2, rfl⟩⟩ := zz2
        exact Ev.gcdE a (up28.ext x) (by (with_reducible exact Nat.lt_of_lt_of_le (by assumption) (by decide))) hh'
      · intro vs s' zz2 x
        obtain ⟨_, rfl, q, r, rfl, m, _⟩ := zz2
        exact (leading_minors_ev (D := fun i => prodTo apartF (i + 1)) a (up26.ext x) (by (with_reducible exact Nat.lt_of_lt_of_le (by assumption) (by decide))) (by (with_reducible exact Nat.lt_of_lt_of_le (by assumption) (by decide))) hh' (by (with_reducible exact Nat.le_trans (by assumption) (by decide))) m Amin (fun k hk => Apb (k + 1) hk)).imp fun v s'' ⟨q, e, _, L⟩ _ => ⟨q, e, L⟩
    · refine (Ev.callG nm_law_products fn_law_products a up26 N g5 (EvL.consV (by walk_at "ev") .nil) (R := fun v s' => ∃ q, v = .ref q ∧ LI s'.heap q m5 (fun i => prodTo apartF (i + 1))) ?_).imp fun v s' ⟨q, e, L⟩ _ => e ▸ LV.ints (f := fun i => prodTo apartF (i + 1)) L
      rintro vs s' rfl x
      exact (law_products_ev (f := apartF) a (up26.ext x) (by (with_reducible exact Nat.lt_of_lt_of_le (by assumption) (by decide))) hh' (by (with_reducible exact Nat.le_trans (by assumption) (by decide))) (LA26.lv.ext x) (fun k hk => Apb k (by (with_reducible exact Nat.le_of_lt (by assumption))))).imp fun v s'' ⟨q, e, _, L⟩ _ => ⟨q, e, L⟩
    · rintro v s₂₇ e x27
      cases e
      exact ⟨rfl, X.transE (c226.trans (Ext.any (Z := Own env) x27)) fun b hb z => absurd (own b z) hb⟩
  wrow_args hpre hlay hrd hwl hlo
  refine wpAny_mono (key _ _ _ (by assumption) (by assumption) (by omega)) ?_ (fun _ _ h => h.elim)
  intro v s' zz2
  obtain ⟨rfl, x⟩ := zz2
  refine GoodW.toG ⟨.inl ⟨_, _, _, rfl, raisesW_false (by wrow_none_raised), .bool true, ?_, fun h => ⟨List.nodup_nil, fun a h => nomatch h⟩⟩, fun b o e => x.1 b o e fun h => h, x.4, x.3.trans hg⟩
  wrow_post
  )


end Mine
end
end
theorem PySem.Challenge.cw_xm0075_01_holds : PySem.Challenge.rw_xm0075_01.Holds := by
  exact Mine.tt
