import PyProof.Rows.All
import Wide.All
import OpenK.AllK
import Wide.FinOn
import PySem.Challenge.RW_nt0638_01
open PySem PySem.W PyProof.Rows
set_option Elab.async false
namespace Mine
section
local macro_rules | `(tactic| o_head $_) => `(tactic| assumption)
set_option maxRecDepth 100000 in
set_option maxHeartbeats 8000000 in
theorem pre (h : PySem.Challenge.rw_nt0638_01.row.Holds) : PySem.Challenge.rw_nt0638_01.row.Holds := by k_head
end
set_option maxRecDepth 100000
noncomputable def ob3 (P : Params) : Obj := by
  refine (?f : ∀ o : Obj, (pre.heap_1 P).lookup 3 = some o → Obj) _ (by k_is)
  exact fun o _ => o
noncomputable def ob34 (P : Params) : Obj := by
  refine (?f : ∀ o : Obj, (pre.heap_1 P).lookup 34 = some o → Obj) _ (by k_is)
  exact fun o _ => o
noncomputable def ob35 (P : Params) : Obj := by
  refine (?f : ∀ o : Obj, (pre.heap_1 P).lookup 35 = some o → Obj) _ (by k_is)
  exact fun o _ => o
noncomputable def ob41 (P : Params) : Obj := by
  refine (?f : ∀ o : Obj, (pre.heap_1 P).lookup 41 = some o → Obj) _ (by k_is)
  exact fun o _ => o
noncomputable def ob42 (P : Params) : Obj := by
  refine (?f : ∀ o : Obj, (pre.heap_1 P).lookup 42 = some o → Obj) _ (by k_is)
  exact fun o _ => o
noncomputable def ob69 (P : Params) : Obj := by
  refine (?f : ∀ o : Obj, (pre.heap_1 P).lookup 69 = some o → Obj) _ (by k_is)
  exact fun o _ => o
noncomputable def ob70 (P : Params) : Obj := by
  refine (?f : ∀ o : Obj, (pre.heap_1 P).lookup 70 = some o → Obj) _ (by k_is)
  exact fun o _ => o
noncomputable def ob72 (P : Params) : Obj := by
  refine (?f : ∀ o : Obj, (pre.heap_1 P).lookup 72 = some o → Obj) _ (by k_is)
  exact fun o _ => o
noncomputable def ob73 (P : Params) : Obj := by
  refine (?f : ∀ o : Obj, (pre.heap_1 P).lookup 73 = some o → Obj) _ (by k_is)
  exact fun o _ => o
noncomputable def ob85 (P : Params) : Obj := by
  refine (?f : ∀ o : Obj, (pre.heap_1 P).lookup 85 = some o → Obj) _ (by k_is)
  exact fun o _ => o
noncomputable def ob91 (P : Params) : Obj := by
  refine (?f : ∀ o : Obj, (pre.heap_1 P).lookup 91 = some o → Obj) _ (by k_is)
  exact fun o _ => o
noncomputable def ob92 (P : Params) : Obj := by
  refine (?f : ∀ o : Obj, (pre.heap_1 P).lookup 92 = some o → Obj) _ (by k_is)
  exact fun o _ => o
noncomputable def ob108 (P : Params) : Obj := by
  refine (?f : ∀ o : Obj, (pre.heap_1 P).lookup 108 = some o → Obj) _ (by k_is)
  exact fun o _ => o
noncomputable def ob109 (P : Params) : Obj := by
  refine (?f : ∀ o : Obj, (pre.heap_1 P).lookup 109 = some o → Obj) _ (by k_is)
  exact fun o _ => o
noncomputable def ob126 (P : Params) : Obj := by
  refine (?f : ∀ o : Obj, (pre.heap_1 P).lookup 126 = some o → Obj) _ (by k_is)
  exact fun o _ => o
noncomputable def ob127 (P : Params) : Obj := by
  refine (?f : ∀ o : Obj, (pre.heap_1 P).lookup 127 = some o → Obj) _ (by k_is)
  exact fun o _ => o
noncomputable def ob129 (P : Params) : Obj := by
  refine (?f : ∀ o : Obj, (pre.heap_1 P).lookup 129 = some o → Obj) _ (by k_is)
  exact fun o _ => o
noncomputable def ob130 (P : Params) : Obj := by
  refine (?f : ∀ o : Obj, (pre.heap_1 P).lookup 130 = some o → Obj) _ (by k_is)
  exact fun o _ => o
noncomputable def ob159 (P : Params) : Obj := by
  refine (?f : ∀ o : Obj, (pre.heap_1 P).lookup 159 = some o → Obj) _ (by k_is)
  exact fun o _ => o
noncomputable def ob160 (P : Params) : Obj := by
  refine (?f : ∀ o : Obj, (pre.heap_1 P).lookup 160 = some o → Obj) _ (by k_is)
  exact fun o _ => o
noncomputable def ob166 (P : Params) : Obj := by
  refine (?f : ∀ o : Obj, (pre.heap_1 P).lookup 166 = some o → Obj) _ (by k_is)
  exact fun o _ => o
noncomputable def ob167 (P : Params) : Obj := by
  refine (?f : ∀ o : Obj, (pre.heap_1 P).lookup 167 = some o → Obj) _ (by k_is)
  exact fun o _ => o
noncomputable def ob173 (P : Params) : Obj := by
  refine (?f : ∀ o : Obj, (pre.heap_1 P).lookup 173 = some o → Obj) _ (by k_is)
  exact fun o _ => o
noncomputable def ob174 (P : Params) : Obj := by
  refine (?f : ∀ o : Obj, (pre.heap_1 P).lookup 174 = some o → Obj) _ (by k_is)
  exact fun o _ => o
noncomputable def ob180 (P : Params) : Obj := by
  refine (?f : ∀ o : Obj, (pre.heap_1 P).lookup 180 = some o → Obj) _ (by k_is)
  exact fun o _ => o
noncomputable def ob181 (P : Params) : Obj := by
  refine (?f : ∀ o : Obj, (pre.heap_1 P).lookup 181 = some o → Obj) _ (by k_is)
  exact fun o _ => o
noncomputable def ob182 (P : Params) : Obj := by
  refine (?f : ∀ o : Obj, (pre.heap_1 P).lookup 182 = some o → Obj) _ (by k_is)
  exact fun o _ => o
noncomputable def ob188 (P : Params) : Obj := by
  refine (?f : ∀ o : Obj, (pre.heap_1 P).lookup 188 = some o → Obj) _ (by k_is)
  exact fun o _ => o
noncomputable def ob189 (P : Params) : Obj := by
  refine (?f : ∀ o : Obj, (pre.heap_1 P).lookup 189 = some o → Obj) _ (by k_is)
  exact fun o _ => o
noncomputable def ob195 (P : Params) : Obj := by
  refine (?f : ∀ o : Obj, (pre.heap_1 P).lookup 195 = some o → Obj) _ (by k_is)
  exact fun o _ => o
noncomputable def ob196 (P : Params) : Obj := by
  refine (?f : ∀ o : Obj, (pre.heap_1 P).lookup 196 = some o → Obj) _ (by k_is)
  exact fun o _ => o
noncomputable def ob202 (P : Params) : Obj := by
  refine (?f : ∀ o : Obj, (pre.heap_1 P).lookup 202 = some o → Obj) _ (by k_is)
  exact fun o _ => o
noncomputable def ob203 (P : Params) : Obj := by
  refine (?f : ∀ o : Obj, (pre.heap_1 P).lookup 203 = some o → Obj) _ (by k_is)
  exact fun o _ => o
noncomputable def ob209 (P : Params) : Obj := by
  refine (?f : ∀ o : Obj, (pre.heap_1 P).lookup 209 = some o → Obj) _ (by k_is)
  exact fun o _ => o
noncomputable def ob210 (P : Params) : Obj := by
  refine (?f : ∀ o : Obj, (pre.heap_1 P).lookup 210 = some o → Obj) _ (by k_is)
  exact fun o _ => o
noncomputable def ob216 (P : Params) : Obj := by
  refine (?f : ∀ o : Obj, (pre.heap_1 P).lookup 216 = some o → Obj) _ (by k_is)
  exact fun o _ => o
noncomputable def ob217 (P : Params) : Obj := by
  refine (?f : ∀ o : Obj, (pre.heap_1 P).lookup 217 = some o → Obj) _ (by k_is)
  exact fun o _ => o
noncomputable def ob223 (P : Params) : Obj := by
  refine (?f : ∀ o : Obj, (pre.heap_1 P).lookup 223 = some o → Obj) _ (by k_is)
  exact fun o _ => o
noncomputable def ob224 (P : Params) : Obj := by
  refine (?f : ∀ o : Obj, (pre.heap_1 P).lookup 224 = some o → Obj) _ (by k_is)
  exact fun o _ => o
noncomputable def ob230 (P : Params) : Obj := by
  refine (?f : ∀ o : Obj, (pre.heap_1 P).lookup 230 = some o → Obj) _ (by k_is)
  exact fun o _ => o
noncomputable def ob231 (P : Params) : Obj := by
  refine (?f : ∀ o : Obj, (pre.heap_1 P).lookup 231 = some o → Obj) _ (by k_is)
  exact fun o _ => o
noncomputable def ob237 (P : Params) : Obj := by
  refine (?f : ∀ o : Obj, (pre.heap_1 P).lookup 237 = some o → Obj) _ (by k_is)
  exact fun o _ => o
noncomputable def ob238 (P : Params) : Obj := by
  refine (?f : ∀ o : Obj, (pre.heap_1 P).lookup 238 = some o → Obj) _ (by k_is)
  exact fun o _ => o
noncomputable def ob244 (P : Params) : Obj := by
  refine (?f : ∀ o : Obj, (pre.heap_1 P).lookup 244 = some o → Obj) _ (by k_is)
  exact fun o _ => o
noncomputable def ob245 (P : Params) : Obj := by
  refine (?f : ∀ o : Obj, (pre.heap_1 P).lookup 245 = some o → Obj) _ (by k_is)
  exact fun o _ => o
noncomputable def ob251 (P : Params) : Obj := by
  refine (?f : ∀ o : Obj, (pre.heap_1 P).lookup 251 = some o → Obj) _ (by k_is)
  exact fun o _ => o
noncomputable def ob252 (P : Params) : Obj := by
  refine (?f : ∀ o : Obj, (pre.heap_1 P).lookup 252 = some o → Obj) _ (by k_is)
  exact fun o _ => o
noncomputable def ob258 (P : Params) : Obj := by
  refine (?f : ∀ o : Obj, (pre.heap_1 P).lookup 258 = some o → Obj) _ (by k_is)
  exact fun o _ => o
noncomputable def ob259 (P : Params) : Obj := by
  refine (?f : ∀ o : Obj, (pre.heap_1 P).lookup 259 = some o → Obj) _ (by k_is)
  exact fun o _ => o
noncomputable def ob265 (P : Params) : Obj := by
  refine (?f : ∀ o : Obj, (pre.heap_1 P).lookup 265 = some o → Obj) _ (by k_is)
  exact fun o _ => o
noncomputable def ob266 (P : Params) : Obj := by
  refine (?f : ∀ o : Obj, (pre.heap_1 P).lookup 266 = some o → Obj) _ (by k_is)
  exact fun o _ => o
noncomputable def ob272 (P : Params) : Obj := by
  refine (?f : ∀ o : Obj, (pre.heap_1 P).lookup 272 = some o → Obj) _ (by k_is)
  exact fun o _ => o
noncomputable def ob273 (P : Params) : Obj := by
  refine (?f : ∀ o : Obj, (pre.heap_1 P).lookup 273 = some o → Obj) _ (by k_is)
  exact fun o _ => o
noncomputable def ob279 (P : Params) : Obj := by
  refine (?f : ∀ o : Obj, (pre.heap_1 P).lookup 279 = some o → Obj) _ (by k_is)
  exact fun o _ => o
noncomputable def ob280 (P : Params) : Obj := by
  refine (?f : ∀ o : Obj, (pre.heap_1 P).lookup 280 = some o → Obj) _ (by k_is)
  exact fun o _ => o
noncomputable def KK (P : Params) : Frag := (nat_lit 3, ob3 P) :: (nat_lit 34, ob34 P) :: (nat_lit 35, ob35 P) :: (nat_lit 41, ob41 P) :: (nat_lit 42, ob42 P) :: (nat_lit 69, ob69 P) :: (nat_lit 70, ob70 P) :: (nat_lit 72, ob72 P) :: (nat_lit 73, ob73 P) :: (nat_lit 85, ob85 P) :: (nat_lit 91, ob91 P) :: (nat_lit 92, ob92 P) :: (nat_lit 108, ob108 P) :: (nat_lit 109, ob109 P) :: (nat_lit 126, ob126 P) :: (nat_lit 127, ob127 P) :: (nat_lit 129, ob129 P) :: (nat_lit 130, ob130 P) :: (nat_lit 159, ob159 P) :: (nat_lit 160, ob160 P) :: (nat_lit 166, ob166 P) :: (nat_lit 167, ob167 P) :: (nat_lit 173, ob173 P) :: (nat_lit 174, ob174 P) :: (nat_lit 180, ob180 P) :: (nat_lit 181, ob181 P) :: (nat_lit 182, ob182 P) :: (nat_lit 188, ob188 P) :: (nat_lit 189, ob189 P) :: (nat_lit 195, ob195 P) :: (nat_lit 196, ob196 P) :: (nat_lit 202, ob202 P) :: (nat_lit 203, ob203 P) :: (nat_lit 209, ob209 P) :: (nat_lit 210, ob210 P) :: (nat_lit 216, ob216 P) :: (nat_lit 217, ob217 P) :: (nat_lit 223, ob223 P) :: (nat_lit 224, ob224 P) :: (nat_lit 230, ob230 P) :: (nat_lit 231, ob231 P) :: (nat_lit 237, ob237 P) :: (nat_lit 238, ob238 P) :: (nat_lit 244, ob244 P) :: (nat_lit 245, ob245 P) :: (nat_lit 251, ob251 P) :: (nat_lit 252, ob252 P) :: (nat_lit 258, ob258 P) :: (nat_lit 259, ob259 P) :: (nat_lit 265, ob265 P) :: (nat_lit 266, ob266 P) :: (nat_lit 272, ob272 P) :: (nat_lit 273, ob273 P) :: (nat_lit 279, ob279 P) :: (nat_lit 280, ob280 P) :: []
noncomputable def KA : List Nat := nat_lit 3 :: nat_lit 34 :: nat_lit 35 :: nat_lit 41 :: nat_lit 42 :: nat_lit 69 :: nat_lit 70 :: nat_lit 72 :: nat_lit 73 :: nat_lit 85 :: nat_lit 91 :: nat_lit 92 :: nat_lit 108 :: nat_lit 109 :: nat_lit 126 :: nat_lit 127 :: nat_lit 129 :: nat_lit 130 :: nat_lit 159 :: nat_lit 160 :: nat_lit 166 :: nat_lit 167 :: nat_lit 173 :: nat_lit 174 :: nat_lit 180 :: nat_lit 181 :: nat_lit 182 :: nat_lit 188 :: nat_lit 189 :: nat_lit 195 :: nat_lit 196 :: nat_lit 202 :: nat_lit 203 :: nat_lit 209 :: nat_lit 210 :: nat_lit 216 :: nat_lit 217 :: nat_lit 223 :: nat_lit 224 :: nat_lit 230 :: nat_lit 231 :: nat_lit 237 :: nat_lit 238 :: nat_lit 244 :: nat_lit 245 :: nat_lit 251 :: nat_lit 252 :: nat_lit 258 :: nat_lit 259 :: nat_lit 265 :: nat_lit 266 :: nat_lit 272 :: nat_lit 273 :: nat_lit 279 :: nat_lit 280 :: []
local macro_rules | `(tactic| k_head) => `(tactic| o_head (kHook KK KA (fun _ => by kernel_rfl)))
set_option maxHeartbeats 8000000 in
open_top hd for PySem.Challenge.rw_nt0638_01
end Mine
set_option maxRecDepth 100000
set_option genInjectivity false
set_option genSizeOfSpec false
namespace Mine
open PySem PySem.W PySem.Spec PySem.Calls PyProof.Rows

/-- by exact rfl, as one term -/
def tacR : Lean.Syntax := .node .none `Lean.Parser.Tactic.tacticSeq #[.node .none `Lean.Parser.Tactic.tacticSeq1Indented #[.node .none `null #[.node .none `Lean.Parser.Tactic.exact #[.atom .none "exact", .ident .none "rfl".toRawSubstring `rfl []]]]]
theorem el12 {α0 : Type} {P0 P1 : α0 → Prop} {G : Prop} (h : ∃ x0, P0 x0 ∧ P1 x0) (k : ∀ x0, P0 x0 → P1 x0 → G) : G := by
  obtain ⟨x0, h0, h1⟩ := h
  exact k x0 h0 h1
theorem el13 {α0 : Type} {P0 P1 P2 : α0 → Prop} {G : Prop} (h : ∃ x0, P0 x0 ∧ P1 x0 ∧ P2 x0) (k : ∀ x0, P0 x0 → P1 x0 → P2 x0 → G) : G := by
  obtain ⟨x0, h0, h1, h2⟩ := h
  exact k x0 h0 h1 h2
theorem el22 {α0 : Type} {α1 : Type} {P0 P1 : α0 → α1 → Prop} {G : Prop} (h : ∃ x0, ∃ x1, P0 x0 x1 ∧ P1 x0 x1) (k : ∀ x0 x1, P0 x0 x1 → P1 x0 x1 → G) : G := by
  obtain ⟨x0, x1, h0, h1⟩ := h
  exact k x0 x1 h0 h1
theorem el23 {α0 : Type} {α1 : Type} {P0 P1 P2 : α0 → α1 → Prop} {G : Prop} (h : ∃ x0, ∃ x1, P0 x0 x1 ∧ P1 x0 x1 ∧ P2 x0 x1) (k : ∀ x0 x1, P0 x0 x1 → P1 x0 x1 → P2 x0 x1 → G) : G := by
  obtain ⟨x0, x1, h0, h1, h2⟩ := h
  exact k x0 x1 h0 h1 h2
theorem el24 {α0 : Type} {α1 : Type} {P0 P1 P2 P3 : α0 → α1 → Prop} {G : Prop} (h : ∃ x0, ∃ x1, P0 x0 x1 ∧ P1 x0 x1 ∧ P2 x0 x1 ∧ P3 x0 x1) (k : ∀ x0 x1, P0 x0 x1 → P1 x0 x1 → P2 x0 x1 → P3 x0 x1 → G) : G := by
  obtain ⟨x0, x1, h0, h1, h2, h3⟩ := h
  exact k x0 x1 h0 h1 h2 h3
theorem el35 {α0 : Type} {α1 : Type} {α2 : Type} {P0 P1 P2 P3 P4 : α0 → α1 → α2 → Prop} {G : Prop} (h : ∃ x0, ∃ x1, ∃ x2, P0 x0 x1 x2 ∧ P1 x0 x1 x2 ∧ P2 x0 x1 x2 ∧ P3 x0 x1 x2 ∧ P4 x0 x1 x2) (k : ∀ x0 x1 x2, P0 x0 x1 x2 → P1 x0 x1 x2 → P2 x0 x1 x2 → P3 x0 x1 x2 → P4 x0 x1 x2 → G) : G := by
  obtain ⟨x0, x1, x2, h0, h1, h2, h3, h4⟩ := h
  exact k x0 x1 x2 h0 h1 h2 h3 h4
theorem el36 {α0 : Type} {α1 : Type} {α2 : Type} {P0 P1 P2 P3 P4 P5 : α0 → α1 → α2 → Prop} {G : Prop} (h : ∃ x0, ∃ x1, ∃ x2, P0 x0 x1 x2 ∧ P1 x0 x1 x2 ∧ P2 x0 x1 x2 ∧ P3 x0 x1 x2 ∧ P4 x0 x1 x2 ∧ P5 x0 x1 x2) (k : ∀ x0 x1 x2, P0 x0 x1 x2 → P1 x0 x1 x2 → P2 x0 x1 x2 → P3 x0 x1 x2 → P4 x0 x1 x2 → P5 x0 x1 x2 → G) : G := by
  obtain ⟨x0, x1, x2, h0, h1, h2, h3, h4, h5⟩ := h
  exact k x0 x1 x2 h0 h1 h2 h3 h4 h5
theorem el47 {α0 : Type} {α1 : Type} {α2 : Type} {α3 : Type} {P0 P1 P2 P3 P4 P5 P6 : α0 → α1 → α2 → α3 → Prop} {G : Prop} (h : ∃ x0, ∃ x1, ∃ x2, ∃ x3, P0 x0 x1 x2 x3 ∧ P1 x0 x1 x2 x3 ∧ P2 x0 x1 x2 x3 ∧ P3 x0 x1 x2 x3 ∧ P4 x0 x1 x2 x3 ∧ P5 x0 x1 x2 x3 ∧ P6 x0 x1 x2 x3) (k : ∀ x0 x1 x2 x3, P0 x0 x1 x2 x3 → P1 x0 x1 x2 x3 → P2 x0 x1 x2 x3 → P3 x0 x1 x2 x3 → P4 x0 x1 x2 x3 → P5 x0 x1 x2 x3 → P6 x0 x1 x2 x3 → G) : G := by
  obtain ⟨x0, x1, x2, x3, h0, h1, h2, h3, h4, h5, h6⟩ := h
  exact k x0 x1 x2 x3 h0 h1 h2 h3 h4 h5 h6
theorem el25 {α0 : Type} {α1 : Type} {P0 P1 P2 P3 P4 : α0 → α1 → Prop} {G : Prop} (h : ∃ x0, ∃ x1, P0 x0 x1 ∧ P1 x0 x1 ∧ P2 x0 x1 ∧ P3 x0 x1 ∧ P4 x0 x1) (k : ∀ x0 x1, P0 x0 x1 → P1 x0 x1 → P2 x0 x1 → P3 x0 x1 → P4 x0 x1 → G) : G := by
  obtain ⟨x0, x1, h0, h1, h2, h3, h4⟩ := h
  exact k x0 x1 h0 h1 h2 h3 h4
noncomputable abbrev Led := List (Addr × Obj)
/-- what of a def stands still -/
structure FnS where
  name : Str
  scope : Scope
  f : Addr
  cd : Value
/-- what of a frame stands still -/
structure Dy where
  w : World
  L : Addr
  outer : List Env
  A₀ : Around
  base : Heap
  g₀ : Heap
  mean : ExcName → Option Value
  mg : Str → Option Value
  mb : Str → Option Value
  room : Nat
/-- what turns: the names, the ledger -/
structure St where
  m : Str → Option Value
  news : Led
noncomputable abbrev env (c : FnS) (d : Dy) : Env := envOf c.name c.scope d.L c.f c.cd
noncomputable abbrev Ar (c : FnS) (d : Dy) : Around := d.A₀.deeper (env c d)
noncomputable abbrev Dy.fs (d : Dy) : List Addr := d.outer.filterMap (·.frame)
noncomputable abbrev TopB (d : Dy) (h : Heap) : Prop := Top hd.view_39 (looseW hd.view_39 [Str.ofString "FOLDED"]) d.mean d.mg d.mb h

structure Ok (c : FnS) (d : Dy) : Prop where
  kind : c.scope.kind = .function
  handled : d.A₀.handled = none
  guards : d.A₀.guards = some []
  depth : d.A₀.depth + 1 + d.room < recursionLimit
  units : d.A₀.units + 3 + 8 * d.room < cLine
  xb : (KK d.w.params).In d.base
  tb : TopB d d.base
structure HoldsG (c : FnS) (d : Dy) (σ : St) (h g : Heap) : Prop where
  ok : Ok c d
  bl : Below d.A₀ d.base d.outer g
  tn : KtsTurn d.fs d.g₀ g
  dc : KtsDicts d.fs g
  fr : Fr g d.L h σ.m
  nw : News g d.L h σ.news
/-- over some ground σ says what the heap is -/
noncomputable def Holds (c : FnS) (d : Dy) (σ : St) (h : Heap) : Prop := ∃ g, HoldsG c d σ h g
section
variable {c : FnS} {d : Dy} {σ : St} {h g : Heap}
theorem HoldsG.x (H : HoldsG c d σ h g) : (KK d.w.params).In g := H.ok.xb.keeps H.bl.stays
theorem HoldsG.t (H : HoldsG c d σ h g) : TopB d g := H.ok.tb.keeps H.bl.stays
theorem HoldsG.tr (H : HoldsG c d σ h g) : TopRead hd.view_39 (looseW hd.view_39 [Str.ofString "FOLDED"]) d.mg d.mb g := topRead_of H.t
theorem HoldsG.xh (H : HoldsG c d σ h g) : (KK d.w.params).In h := H.x.keeps H.fr.keep
theorem HoldsG.to (H : HoldsG c d σ h g) {m : Str → Option Value} {news : Led} {h' : Heap} (F : Fr g d.L h' m) (N : News g d.L h' news) : Holds c d ⟨m, news⟩ h' := ⟨g, H.ok, H.bl, H.tn, H.dc, F, N⟩
end

/-- the tree t, from a state where σ holds, comes back with what P says; it raises nothing -/
noncomputable def Tr {α : Type} (c : FnS) (d : Dy) (σ : St) (t : Sem α) (P : α → St → Prop) : Prop :=
  ∀ (s : Shared) (Q : α → Shared → Prop) (E : Value → Shared → Prop), Holds c d σ s.heap →
    (∀ v σ' h' tk', P v σ' → Holds c d σ' h' → Q v { s with heap := h', toks := tk' }) →
    wpAny (model PySem.Challenge.rw_nt0638_01.row.prog d.w) (Ar c d) t Q E s

section
variable {α β : Type} {c : FnS} {d : Dy} {σ : St} {t : Sem α} {P : α → St → Prop}
theorem Tr.run {P' : α → St → Prop} (h : Tr c d σ t P) {s : Shared} {Q : α → Shared → Prop} {E : Value → Shared → Prop} (H : Holds c d σ s.heap) (k : ∀ v σ' h' tk', P v σ' → Holds c d σ' h' → Q v { s with heap := h', toks := tk' }) :
    wpAny (model PySem.Challenge.rw_nt0638_01.row.prog d.w) (Ar c d) t Q E s := h s Q E H k
theorem Tr.mono {P' : α → St → Prop} (h : Tr c d σ t P) (k : ∀ v σ', P v σ' → P' v σ') : Tr c d σ t P' :=
  fun s Q E H r => h s Q E H fun v σ' h' tk' p H' => r v σ' h' tk' (k v σ' p) H'
theorem Tr.bind {f : α → Sem β} {P' : β → St → Prop} (h : Tr c d σ t P) (k : ∀ v σ', P v σ' → Tr c d σ' (f v) P') : Tr c d σ (t >>= f) P' :=
  fun s Q E H r => wpAny_bind (h s _ E H fun v σ' h' tk' p H' => k v σ' p { s with heap := h', toks := tk' } Q E H' r)
theorem Tr.pure {a : α} {P : α → St → Prop} (h : P a σ) : Tr c d σ (pure a) P :=
  fun s _ _ H r => wpAny_pure (r a σ s.heap s.toks h H)
end
end Mine

namespace Mine
open PySem PySem.W PySem.Spec PySem.Calls PyProof.Rows

noncomputable def IsI (i : Int) (v : Value) : Prop := ∃ t, v = .int i t
noncomputable def IsP (p : Prop) (v : Value) : Prop := ∃ b, v = .bool b ∧ (b = true ↔ p)
/-- e has a value of R; nothing turns -/
noncomputable abbrev EP (c : FnS) (d : Dy) (σ : St) (e : PySem.Expr) (R : Value → Prop) : Prop := Tr c d σ (eval e (env c d)) (fun v σ' => R v ∧ σ = σ')
/-- the test e says whether p; nothing turns -/
noncomputable abbrev TT (c : FnS) (d : Dy) (σ : St) (e : PySem.Expr) (p : Prop) : Prop := Tr c d σ (isTrue e (env c d) (eval e (env c d))) (fun b σ' => (b = true ↔ p) ∧ σ = σ')
noncomputable def upd (m : Str → Option Value) (x : Str) (v : Value) : Str → Option Value := fun y => if y = x then some v else m y

noncomputable abbrev OpOk (op : Operator) (Ra Rb R : Value → Prop) : Prop := ∀ (w : World) (A : Around) (s : Shared) (Q : Value → Shared → Prop) (E : Value → Shared → Prop) (x y : Value), Ra x → Rb y → (∀ v tk, R v → Q v { s with toks := tk }) →
  wpAny (model PySem.Challenge.rw_nt0638_01.row.prog w) A (binaryOp op x y) Q E s
noncomputable abbrev CmpOk (op : CmpOp) (Ra Rb : Value → Prop) (p : Prop) : Prop := ∀ (w : World) (A : Around) (s : Shared) (Q : Value → Shared → Prop) (E : Value → Shared → Prop) (x y : Value), Ra x → Rb y → (∀ b tk, (b = true ↔ p) → Q (.bool b) { s with toks := tk }) →
  wpAny (model PySem.Challenge.rw_nt0638_01.row.prog w) A (compareOp op x y) Q E s

section
variable {c : FnS} {d : Dy} {σ : St} {Ra Rb R : Value → Prop} {l r e : PySem.Expr} {pos : Pos} {p q : Prop}
theorem EP.mono {R' : Value → Prop} (h : EP c d σ e R) (k : ∀ v, R v → R' v) : EP c d σ e R' := Tr.mono h fun _ _ ⟨a, b⟩ => ⟨k _ a, b⟩
theorem EP.bin {op : Operator} (hl : EP c d σ l Ra) (hr : EP c d σ r Rb) (ho : OpOk op Ra Rb R) : EP c d σ (.BinOp l op r pos) R := by
  intro s Q E H k
  refine wpAny_BinOp (hl s _ E H ?_)
  rintro v σ' h' tk' ⟨hv, rfl⟩ H'
  refine hr { s with heap := h', toks := tk' } _ E H' ?_
  rintro u σ' h'' tk'' ⟨hu, rfl⟩ H''
  exact ho d.w _ { s with heap := h'', toks := tk'' } Q E v u hv hu fun x tk hx => k x σ h'' tk ⟨hx, rfl⟩ H''
theorem EP.cmp {op : CmpOp} (hl : EP c d σ l Ra) (hr : EP c d σ r Rb) (ho : CmpOk op Ra Rb p) (hm : autoParam (behindInMarks op r = false) tacR) : EP c d σ (.Compare l [op] [r] pos) (IsP p) := by
  intro s Q E H k
  refine wpAny_Compare1 (hl s _ E H ?_) hm
  rintro v σ' h' tk' ⟨hv, rfl⟩ H'
  refine hr { s with heap := h', toks := tk' } _ E H' ?_
  rintro u σ' h'' tk'' ⟨hu, rfl⟩ H''
  exact ho d.w _ { s with heap := h'', toks := tk'' } Q E v u hv hu fun x tk hx => k (.bool x) σ h'' tk ⟨⟨x, rfl, hx⟩, rfl⟩ H''
theorem TT.cmp {op : CmpOp} (hl : EP c d σ l Ra) (hr : EP c d σ r Rb) (ho : CmpOk op Ra Rb p) (hm : autoParam (behindInMarks op r = false) tacR) : TT c d σ (.Compare l [op] [r] pos) p := by
  intro s Q E H k
  refine wpAny_isTrue_Compare1 (hl s _ E H ?_) hm
  rintro v σ' h' tk' ⟨hv, rfl⟩ H'
  refine hr { s with heap := h', toks := tk' } _ E H' ?_
  rintro u σ' h'' tk'' ⟨hu, rfl⟩ H''
  exact ho d.w _ { s with heap := h'', toks := tk'' } _ E v u hv hu fun x tk hx => wpAny_truthy_bool (k x σ h'' tk ⟨hx, rfl⟩ H'')
theorem TT.mono (h : TT c d σ e p) (k : p ↔ q) : TT c d σ e q := Tr.mono h fun _ _ ⟨a, b⟩ => ⟨a.trans k, b⟩
theorem TT.plain (h : EP c d σ e (IsP p)) (he : ∀ whole : Sem Value, isTrue e (env c d) whole = (do let v ← whole; standAt e.pos; holding [v] (truthy v)) := by exact fun _ => rfl) : TT c d σ e p := by
  intro s Q E H k
  refine isTrue_plain (h s _ E H ?_) (he _)
  rintro v σ' h' tk' ⟨⟨b, rfl, hb⟩, rfl⟩ H'
  exact wpAny_truthy_bool (k b σ h' tk' ⟨hb, rfl⟩ H')
theorem TT.not (h : TT c d σ e p) : TT c d σ (.UnaryOp .Not e pos) (¬ p) := by
  intro s Q E H k
  refine isTrue_not (h s _ E H ?_)
  rintro b σ' h' tk' ⟨hb, rfl⟩ H'
  exact k (!b) σ h' tk' ⟨by rw [← hb]; simp, rfl⟩ H'
theorem EP.name {x : Str} {v : Value} (hv : autoParam (σ.m x = some v) tacR) (hx : autoParam ((env c d).kindOf x = some .local) tacR) (hd : autoParam ((x == ("__debug__" : Str)) = false) tacR) : EP c d σ (.Name x pos) (fun u => u = v) := by
  intro s Q E H k
  obtain ⟨g, G⟩ := id H
  exact nameX_L G.fr hv (k v σ s.heap s.toks ⟨rfl, rfl⟩ H) G.ok.kind hx hd
theorem EP.nameI {x : Str} {i : Int} {t : Tok} (hv : autoParam (σ.m x = some (.int i t)) tacR) (hx : autoParam ((env c d).kindOf x = some .local) tacR) (hd : autoParam ((x == ("__debug__" : Str)) = false) tacR) : EP c d σ (.Name x pos) (IsI i) :=
  EP.mono (EP.name (v := .int i t) hv hx hd) fun _ e => ⟨t, e⟩
theorem EP.glob {x : Str} {v : Value} (e : nsIn (KK d.w.params) mainGlobals x = some (some v)) (hx : autoParam ((env c d).kindOf x = some .globalImplicit) tacR) (hd : autoParam ((x == ("__debug__" : Str)) = false) tacR) : EP c d σ (.Name x pos) (fun u => u = v) := by
  intro s Q E H k
  obtain ⟨g, G⟩ := id H
  exact nameX_K G.fr G.x G.tr e (k v σ s.heap s.toks ⟨rfl, rfl⟩ H) G.ok.kind hx hd
theorem EP.built {x : Str} {v : Value} (e : nsIn (KK d.w.params) mainGlobals x = some none) (hv : bootBuiltins x = some v) (hn : x ≠ "__name__") (hx : autoParam ((env c d).kindOf x = some .globalImplicit) tacR) (hd : autoParam ((x == ("__debug__" : Str)) = false) tacR) : EP c d σ (.Name x pos) (fun u => u = v) := by
  intro s Q E H k
  obtain ⟨g, G⟩ := id H
  exact nameX_B G.fr G.x G.tr e hv hn (k v σ s.heap s.toks ⟨rfl, rfl⟩ H) G.ok.kind hx hd
theorem EP.int {i : Int} {n : Nat} : EP c d σ (.Constant (.int i) n pos) (IsI i) := by
  intro s Q E H k
  exact wpAny_Constant_int (k _ σ s.heap _ ⟨⟨_, rfl⟩, rfl⟩ H)
theorem EP.neg {i : Int} (h : EP c d σ e (IsI i)) : EP c d σ (.UnaryOp .USub e pos) (IsI (-i)) := by
  intro s Q E H k
  refine wpAny_UnaryOp (h s _ E H ?_)
  rintro v σ' h' tk' ⟨⟨t, rfl⟩, rfl⟩ H'
  exact neg_int (k _ σ h' _ ⟨⟨_, rfl⟩, rfl⟩ H')
theorem EP.ifexp {t : PySem.Expr} (ht : TT c d σ t p) (h1 : p → EP c d σ l R) (h2 : ¬ p → EP c d σ r R) : EP c d σ (.IfExp t l r pos) R := by
  intro s Q E H k
  refine wpAny_IfExp (ht s _ E H ?_)
  rintro b σ' h' tk' ⟨hb, rfl⟩ H'
  cases b with
  | true => exact h1 (hb.mp rfl) _ _ _ H' k
  | false => exact h2 (fun x => nomatch hb.mpr x) _ _ _ H' k
end
section
variable {a b : Int}
theorem abs_lt {b k : Int} (h : 0 < b) (h2 : b < k) : (b.natAbs : Int) < k := by rw [Int.natAbs_of_nonneg (Int.le_of_lt h)]; exact h2
theorem op_add : OpOk .Add (IsI a) (IsI b) (IsI (a + b)) := by
  rintro w A s Q E _ _ ⟨t, rfl⟩ ⟨u, rfl⟩ k
  exact add_int (k _ _ ⟨_, rfl⟩)
theorem op_sub : OpOk .Sub (IsI a) (IsI b) (IsI (a - b)) := by
  rintro w A s Q E _ _ ⟨t, rfl⟩ ⟨u, rfl⟩ k
  exact sub_int (k _ _ ⟨_, rfl⟩)
theorem op_mul (h : -1073741824 < b ∧ b < 1073741824) : OpOk .Mult (IsI a) (IsI b) (IsI (a * b)) := by
  rintro w A s Q E _ _ ⟨t, rfl⟩ ⟨u, rfl⟩ k
  obtain ⟨h1, h2⟩ := h
  exact mul_int (k _ _ ⟨_, rfl⟩) (PySem.IntMulOk.of_right (PySem.intBits_le_64 (Int.lt_trans (by decide) h1) (Int.lt_trans h2 (by decide))))
theorem op_mod (h : 0 < b) : OpOk .Mod (IsI a) (IsI b) (IsI (a % b)) := by
  rintro w A s Q E _ _ ⟨t, rfl⟩ ⟨u, rfl⟩ k
  refine mod_int' (Int.ne_of_gt h) (k _ _ ⟨s.toks, ?_⟩)
  rw [Int.fmod_eq_emod_of_nonneg _ (Int.le_of_lt h)]
theorem op_div (h : 0 < b) (h2 : b < 1073741824) : OpOk .FloorDiv (IsI a) (IsI b) (IsI (a / b)) := by
  rintro w A s Q E _ _ ⟨t, rfl⟩ ⟨u, rfl⟩ k
  refine floordiv_int (Int.ne_of_gt h) (k _ _ ⟨s.toks, ?_⟩) (Or.inl (PyProof.noPylong_small (Int.ofNat_lt.mp (abs_lt h h2))))
  rw [Int.fdiv_eq_ediv_of_nonneg _ (Int.le_of_lt h)]
theorem op_shl (h : 0 ≤ b ∧ b ≤ 1000) : OpOk .LShift (IsI 1) (IsI b) (IsI (1 * 2 ^ b.toNat)) := by
  rintro w A s Q E _ _ ⟨t, rfl⟩ ⟨u, rfl⟩ k
  exact lshift_int_small h.1 (Int.le_trans h.2 (by decide)) (by decide) (k _ _ ⟨_, rfl⟩)
theorem op_and : OpOk .BitAnd (IsI a) (IsI b) (IsI (Builtin.bitAnd a b)) := by
  rintro w A s Q E _ _ ⟨t, rfl⟩ ⟨u, rfl⟩ k
  exact and_int (k _ _ ⟨_, rfl⟩)
theorem cmp_lt : CmpOk .Lt (IsI a) (IsI b) (a < b) := by
  rintro w A s Q E _ _ ⟨t, rfl⟩ ⟨u, rfl⟩ k
  exact lt_int (k _ s.toks decide_eq_true_iff)
theorem cmp_le : CmpOk .LtE (IsI a) (IsI b) (a ≤ b) := by
  rintro w A s Q E _ _ ⟨t, rfl⟩ ⟨u, rfl⟩ k
  exact le_int (k _ s.toks decide_eq_true_iff)
theorem cmp_gt : CmpOk .Gt (IsI a) (IsI b) (b < a) := by
  rintro w A s Q E _ _ ⟨t, rfl⟩ ⟨u, rfl⟩ k
  exact gt_int (k _ s.toks decide_eq_true_iff)
theorem cmp_ge : CmpOk .GtE (IsI a) (IsI b) (b ≤ a) := by
  rintro w A s Q E _ _ ⟨t, rfl⟩ ⟨u, rfl⟩ k
  exact ge_int (k _ s.toks decide_eq_true_iff)
theorem cmp_eq : CmpOk .Eq (IsI a) (IsI b) (a = b) := by
  rintro w A s Q E _ _ ⟨t, rfl⟩ ⟨u, rfl⟩ k
  exact eq_int (k _ s.toks beq_iff_eq)
theorem cmp_ne : CmpOk .NotEq (IsI a) (IsI b) (a ≠ b) := by
  rintro w A s Q E _ _ ⟨t, rfl⟩ ⟨u, rfl⟩ k
  exact ne_int (k _ s.toks bne_iff_ne)
theorem cmp_eqP {p q : Prop} : CmpOk .Eq (IsP p) (IsP q) (p ↔ q) := by
  rintro w A s Q E _ _ ⟨a, rfl, ha⟩ ⟨b, rfl, hb⟩ k
  exact eq_bool (k _ s.toks (by rw [← ha, ← hb]; cases a <;> cases b <;> simp))
theorem cmp_neP {p q : Prop} : CmpOk .NotEq (IsP p) (IsP q) (¬ (p ↔ q)) := by
  rintro w A s Q E _ _ ⟨a, rfl, ha⟩ ⟨b, rfl, hb⟩ k
  exact ne_bool (k _ s.toks (by rw [← ha, ← hb]; cases a <;> cases b <;> simp))
end

theorem Tr.gen {α : Type} {c : FnS} {d : Dy} {m : Str → Option Value} {news : Led} {t : Sem α} {P : α → St → Prop} (k : ∀ M, M = m → Tr c d ⟨M, news⟩ t P) : Tr c d ⟨m, news⟩ t P := k m rfl
/-- behind a statement -/
noncomputable def Seq (c : FnS) (d : Dy) (rest : List Stmt) (P : Flow → St → Prop) (f : Flow) (σ : St) : Prop :=
  match f with
  | .next => Tr c d σ (execs rest (env c d)) P
  | f => P f σ
section
variable {c : FnS} {d : Dy} {σ : St} {P : Flow → St → Prop} {rest body orelse : List Stmt} {st : Stmt} {e t : PySem.Expr} {pos px : Pos} {p : Prop} {x : Str}
theorem Ex.nil (h : P .next σ) : Tr c d σ (execs [] (env c d)) P := fun s _ _ H k => wpAny_execs_nil (k _ σ s.heap s.toks h H)
theorem Ex.cons (h : Tr c d σ (exec st (env c d)) (Seq c d rest P)) : Tr c d σ (execs (st :: rest) (env c d)) P := by
  intro s Q E H k
  refine wpAny_execs_cons (h s _ E H fun f σ' h' tk' hf H' => ?_)
  cases f with
  | next => exact hf _ _ _ H' fun v σ2 h2 tk2 p2 H2 => k v σ2 h2 tk2 p2 H2
  | cont => exact k _ σ' h' tk' hf H'
  | brk => exact k _ σ' h' tk' hf H'
  | ret v => exact k _ σ' h' tk' hf H'
theorem Ex.assign {P₁ : Value → St → Prop} (he : Tr c d σ (eval e (env c d)) P₁) (k : ∀ v σ', P₁ v σ' → Tr c d ⟨upd σ'.m x v, σ'.news⟩ (execs rest (env c d)) P)
    (hx : autoParam ((env c d).kindOf x = some .local) tacR) (hs : autoParam (swapsWith e (some (.Name x px)) pos.line (env c d) = Pure.pure false) tacR) : Tr c d σ (execs (.Assign [.Name x px] e pos :: rest) (env c d)) P := by
  refine Ex.cons ?_
  intro s Q E H k'
  refine wpAny_Assign_Name (he s _ E H fun v σ' h' tk' hv H' => ?_) hs
  obtain ⟨g, G⟩ := H'
  refine storeX_L G.fr G.nw (fun h2 F2 N2 => ?_) G.ok.kind hx
  exact k' .next ⟨upd σ'.m x v, σ'.news⟩ h2 _ (k v σ' hv) (G.to F2 N2)
theorem Ex.assignI {i : Int} (he : EP c d σ e (IsI i)) (k : ∀ tk, Tr c d ⟨upd σ.m x (.int i tk), σ.news⟩ (execs rest (env c d)) P)
    (hx : autoParam ((env c d).kindOf x = some .local) tacR) (hs : autoParam (swapsWith e (some (.Name x px)) pos.line (env c d) = Pure.pure false) tacR) : Tr c d σ (execs (.Assign [.Name x px] e pos :: rest) (env c d)) P :=
  Ex.assign he (by rintro v σ' ⟨⟨tk, rfl⟩, rfl⟩; exact k tk) hx hs
theorem Ex.ret (he : Tr c d σ (eval e (env c d)) (fun v σ' => P (.ret v) σ')) : Tr c d σ (execs (.Return (some e) pos :: rest) (env c d)) P := by
  refine Ex.cons ?_
  intro s Q E H k'
  refine wpAny_Return_some (he s _ E H fun v σ' h' tk' hv H' => ?_)
  exact k' (.ret v) σ' h' tk' hv H'
theorem Ex.ite (ht : TT c d σ t p) (h1 : p → Tr c d σ (execs body (env c d)) (Seq c d rest P)) (h2 : ¬ p → Tr c d σ (execs orelse (env c d)) (Seq c d rest P)) : Tr c d σ (execs (.If t body orelse pos :: rest) (env c d)) P := by
  refine Ex.cons ?_
  intro s Q E H k'
  refine wpAny_If (ht s _ E H ?_)
  rintro b σ' h' tk' ⟨hb, rfl⟩ H'
  cases b with
  | true => exact h1 (hb.mp rfl) _ _ _ H' k'
  | false => exact h2 (fun x => nomatch hb.mpr x) _ _ _ H' k'
theorem Ex.if_ (ht : TT c d σ t p) (h1 : p → Tr c d σ (execs body (env c d)) (Seq c d rest P)) (h2 : ¬ p → Tr c d σ (execs rest (env c d)) P) : Tr c d σ (execs (.If t body [] pos :: rest) (env c d)) P :=
  Ex.ite ht h1 fun h => Ex.nil (h2 h)
end
end Mine

namespace Mine
open PySem PySem.W PySem.Spec PySem.Calls PyProof.Rows

/-- a call of the def f from any frame that has the room k: what comes back and the new ledger obey P -/
noncomputable def ConA (w : World) (f : Addr) (k : Nat) (args : Args) (news : Led) (P : Value → Led → Prop) : Prop :=
  ∀ (c : FnS) (d : Dy) (σ : St) (A : Around) (s : Shared) (R : Result → Shared → Prop), d.w = w → σ.news = news → A.frames = some (env c d :: d.outer) → A.handled = none → A.guards = some [] → A.depth + k < recursionLimit → A.units + 8 * k < cLine →
    Holds c d σ s.heap → (∀ r σ' h' tk', P r σ'.news → σ'.m = σ.m → Holds c d σ' h' → R (.ok (.ret r)) { s with heap := h', toks := tk' }) →
    codeAny (model PySem.Challenge.rw_nt0638_01.row.prog w) A (.call (.ref f) args) R s
noncomputable abbrev Con (w : World) (f : Addr) (k : Nat) (vs : List Value) (news : Led) (P : Value → Led → Prop) : Prop := ConA w f k ⟨vs, []⟩ news P
/-- what a frame's end hands back -/
noncomputable def Back (P : Value → Led → Prop) (f : Flow) (σ : St) : Prop := P (match f with | .ret v => v | _ => .none) σ.news

theorem room_in {a k n : Nat} (h : a + 8 * (k + 1) < n) : a + 3 + 8 * k < n := Nat.lt_of_le_of_lt (by rw [Nat.add_right_comm]; exact Nat.add_le_add_left (by decide : 3 ≤ 8) _) h
theorem room_d {a k r n : Nat} (h : k ≤ r) (q : a + 1 + r < n) : a + 1 + k < n := Nat.lt_of_le_of_lt (Nat.add_le_add_left h _) q
theorem room_u {a k r n : Nat} (h : k ≤ r) (q : a + 3 + 8 * r < n) : a + 3 + 8 * k < n := Nat.lt_of_le_of_lt (Nat.add_le_add_left (Nat.mul_le_mul_left 8 h) _) q
theorem room_m {a k r n : Nat} (h : k + 1 ≤ r) (q : a + 3 + 8 * r < n) : a + 3 + 1 + 8 * k < n := Nat.lt_of_le_of_lt (by rw [Nat.add_right_comm]; exact Nat.add_le_add_left (Nat.add_le_add_left (by decide : 1 ≤ 8) (8 * k)) (a + 3)) (room_u h q)
theorem room_e {a k r n : Nat} (h : k + 1 ≤ r) (q : a + 1 + r < n) : a + 1 + 1 + k < n := Nat.lt_of_le_of_lt (Nat.le_of_eq (Nat.add_right_comm _ _ _)) (room_d h q)
/-- a room that is known -/
theorem rm {d : Dy} {j k : Nat} (h : d.room = k) (q : Nat.ble j k = true) : j ≤ d.room := h ▸ Nat.le_of_ble_eq_true q
theorem con_intro {w : World} {f : Addr} {k : Nat} {args : Args} {news : Led} {P : Value → Led → Prop} {name qual : Str} {params : Arguments} {body : List Stmt} {scope : Scope} {dV kV doc pm cdv ct oc : Value} {an od : Option Addr} {osl : Array (Option Value)} {binds : List (Str × Value)}
    (ho : (KK w.params).lookup f = some ⟨oc, od, .func (fnOf name qual params body scope dV kV doc pm an cdv ct), osl⟩) (hcd : codeIn (KK w.params) cdv qual = true)
    (hbind : ∀ s, (KK w.params).In s.heap → BindsTo s (fnOf name qual params body scope dV kV doc pm an cdv ct) args binds) (hloc : ∀ y ∈ binds, scope.names.lookup y.1 = some .local)
    (hco : scope.isCoroutine = false) (hgen : scope.isGenerator = false) (hk : scope.kind = .function) (hcell : ∀ x ∈ scope.names, x.2 ≠ .cell)
    (h : ∀ (d : Dy), d.w = w → d.room = k → Tr ⟨qual, scope, f, cdv⟩ d ⟨fun y => binds.reverse.lookup y, news⟩ (execs body (env ⟨qual, scope, f, cdv⟩ d)) (Back P)) :
    ConA w f (k + 1) args news P := by
  rintro c d σ A s R rfl rfl hA hh hgd hdp hun H₀ ret
  obtain ⟨g₁, H⟩ := H₀
  refine code_defS (mean := d.mean) (mg := d.mg) (mb := d.mb) H.bl H.fr H.x H.nw H.t H.ok.xb H.ok.tb H.dc H.tn hA ho hcd (Nat.lt_of_le_of_lt (Nat.le_add_right _ _) hdp) (hbind _ H.xh) hloc (fun g L' h₁ FG F' N' B' X' T' D' => ?_) H.ok.kind hco hgen hk hcell
  refine h ⟨d.w, L', env c d :: d.outer, A, d.base, g, d.mean, d.mg, d.mb, k⟩ rfl rfl { s with heap := h₁, toks := _ } _ _ ⟨g, ⟨hk, hh, hgd, ?_, ?_, H.ok.xb, H.ok.tb⟩, B', KtsTurn.refl, D', F', N'⟩ ?_
  · exact Nat.lt_of_le_of_lt (Nat.le_of_eq (Nat.add_right_comm _ _ _)) hdp
  · exact room_in hun
  · rintro fl σ' h' tk' hp ⟨g', H'⟩
    refine leaveS_r H'.fr H'.nw H'.tn fun h₀' kT kF kN kB kX kP kD => ?_
    exact ret _ ⟨σ.m, σ'.news⟩ h' tk' hp rfl ⟨h₀', H.ok, kB, kT, kD, kF, kN⟩

theorem fill__j_C3 : (PySem.Challenge.rw_nt0638_01, KK) = (PySem.Challenge.rw_nt0638_01, KK) := by k_fill; rfl
section
variable {c : FnS} {d : Dy} {σ : St} {k : Nat} {vs : List Value} {P : Value → Led → Prop} {f : Addr}
theorem Tr.call (C : Con d.w f k vs σ.news P) (hr : k ≤ d.room) : Tr c d σ (call (.ref f) vs) (fun r σ' => P r σ'.news ∧ σ'.m = σ.m) := by
  intro s Q E H ret
  obtain ⟨g, G⟩ := id H
  refine wpAny_call (C c d σ _ s _ rfl rfl (Around.frames_deeper G.bl.stack) G.ok.handled G.ok.guards ?_ ?_ H fun r σ' h' tk' p hm H' => ret r σ' h' tk' ⟨p, hm⟩ H')
  · exact room_d hr G.ok.depth
  · exact room_u hr G.ok.units
end

/-- the arguments -/
noncomputable abbrev Args (c : FnS) (d : Dy) (σ : St) (pos : Pos) (es : List PySem.Expr) (P : List Value → St → Prop) : Prop := Tr c d σ (spliced (backTo pos (starEach es (env c d)))) P
section
variable {c : FnS} {d : Dy} {σ : St} {pos p2 : Pos} {es : List PySem.Expr} {e fe : PySem.Expr} {P : List Value → St → Prop} {PV : Value → St → Prop} {R : Value → Prop}
theorem Args.nil (h : P [] σ) : Args c d σ pos [] P := fun s _ _ H k => args_nil (k _ σ s.heap s.toks h H)
theorem Args.cons {P₁ : Value → St → Prop} (he : Tr c d σ (eval e (env c d)) P₁) (k : ∀ v σ', P₁ v σ' → Args c d σ' pos es (fun vs σ2 => P (v :: vs) σ2)) (hs : autoParam (starEach (e :: es) (env c d) = (false, eval e (env c d)) :: starEach es (env c d)) tacR) : Args c d σ pos (e :: es) P := by
  intro s Q E H r
  refine args_cons (he s _ E H fun v σ' h' tk' hv H' => ?_) hs
  exact k v σ' hv { s with heap := h', toks := tk' } _ E H' fun vs σ2 h2 tk2 p H2 => r (v :: vs) σ2 h2 tk2 p H2
theorem Args.p (he : EP c d σ e R) (k : ∀ v, R v → Args c d σ pos es (fun vs σ2 => P (v :: vs) σ2)) (hs : autoParam (starEach (e :: es) (env c d) = (false, eval e (env c d)) :: starEach es (env c d)) tacR) : Args c d σ pos (e :: es) P :=
  Args.cons he (by rintro v σ' ⟨hv, rfl⟩; exact k v hv) hs
theorem Args.i {i : Int} (he : EP c d σ e (IsI i)) (k : ∀ t, Args c d σ pos es (fun vs σ2 => P (.int i t :: vs) σ2)) (hs : autoParam (starEach (e :: es) (env c d) = (false, eval e (env c d)) :: starEach es (env c d)) tacR) : Args c d σ pos (e :: es) P :=
  Args.p he (by rintro v ⟨t, rfl⟩; exact k t) hs
theorem Args.v {u : Value} (he : EP c d σ e (fun v => v = u)) (k : Args c d σ pos es (fun vs σ2 => P (u :: vs) σ2)) (hs : autoParam (starEach (e :: es) (env c d) = (false, eval e (env c d)) :: starEach es (env c d)) tacR) : Args c d σ pos (e :: es) P :=
  Args.p he (by rintro v rfl; exact k) hs
theorem EP.callG {f : Addr} (hf : Tr c d σ (eval fe (env c d)) (fun v σ' => v = .ref f ∧ σ = σ')) (hk : keepIn (KK d.w.params) (.ref f) = true)
    (ha : Args c d σ pos (e :: es) (fun vs σ' => Tr c d σ' (call (.ref f) vs) PV)) (hs : autoParam (starEach (e :: es) (env c d) = (false, eval e (env c d)) :: starEach es (env c d)) tacR) (hp : autoParam ((backTo pos (starEach es (env c d))).any (·.1) = false) tacR)
    (he : autoParam (eval (.Call fe (e :: es) [] pos) (env c d) = (do callWith pos (← eval fe (env c d)) [] (backTo pos (starEach (e :: es) (env c d))) (backToKw pos (keywordEach [] (env c d))))) tacR) :
    Tr c d σ (eval (.Call fe (e :: es) [] pos) (env c d)) PV := by
  intro s Q E H r
  refine Call_ (hf s _ E H ?_) he
  rintro v σ' h' tk' ⟨rfl, rfl⟩ H'
  obtain ⟨g, G⟩ := id H'
  refine callWith_K (first := []) G.x hk ?_ hs hp
  refine ha _ _ E H' ?_
  rintro vs σ2 h2 tk2 hv H2
  obtain ⟨g2, G2⟩ := id H2
  exact ⟨G2.xh, hv _ _ _ H2 r⟩
theorem EP.callB {f : String} (hf : Tr c d σ (eval fe (env c d)) (fun v σ' => v = .builtin f ∧ σ = σ'))
    (ha : Args c d σ pos (e :: es) (fun vs σ' => Tr c d σ' (call (.builtin f) vs) PV)) (hs : autoParam (starEach (e :: es) (env c d) = (false, eval e (env c d)) :: starEach es (env c d)) tacR) (hp : autoParam ((backTo pos (starEach (e :: es) (env c d))).any (·.1) = false) tacR)
    (he : autoParam (eval (.Call fe (e :: es) [] pos) (env c d) = (do callWith pos (← eval fe (env c d)) [] (backTo pos (starEach (e :: es) (env c d))) (backToKw pos (keywordEach [] (env c d))))) tacR) :
    Tr c d σ (eval (.Call fe (e :: es) [] pos) (env c d)) PV := by
  intro s Q E H r
  refine Call_ (hf s _ E H ?_) he
  rintro v σ' h' tk' ⟨rfl, rfl⟩ H'
  have hz := ha { s with heap := h', toks := tk' } (fun vs s₁ => wpAny (model PySem.Challenge.rw_nt0638_01.row.prog d.w) (Ar c d) (call (.builtin f) ([] ++ vs)) Q E s₁) E H' fun vs σ2 h2 tk2 hv H2 => hv { s with heap := h2, toks := tk2 } Q E H2 r
  refine Calls.callWith_builtin hp ?_
  rw [hs] at hz ⊢
  exact Calls.evalArgs_plain hz
theorem abs_if (i : Int) : (if i < 0 then -i else i) = (i.natAbs : Int) := by
  by_cases h : i < 0
  · rw [if_pos h, ← Int.natAbs_neg]; exact (Int.natAbs_of_nonneg (Int.neg_nonneg_of_nonpos (Int.le_of_lt h))).symm
  · rw [if_neg h]; exact (Int.natAbs_of_nonneg (Int.not_lt.mp h)).symm
theorem g_abs (w : World) : nsIn (KK w.params) mainGlobals (Str.ofString "abs") = some none := by k_is
theorem EP.abs {i : Int} (h : EP c d σ e (IsI i)) (hs : autoParam (starEach [e] (env c d) = [(false, eval e (env c d))]) tacR) (hx : autoParam ((env c d).kindOf (Str.ofString "abs") = some .globalImplicit) tacR) : EP c d σ (.Call (.Name (Str.ofString "abs") p2) [e] [] pos) (IsI (i.natAbs : Int)) := by
  refine EP.callB (EP.built (g_abs _) boot_abs (by decide) hx rfl) (Args.cons h ?_ hs) hs (by rw [hs]; rfl) rfl
  rintro v σ' ⟨⟨t, rfl⟩, rfl⟩
  refine Args.nil ?_
  intro s Q E H k
  exact call_abs_int fun u tk => k _ σ s.heap tk ⟨⟨u, by rw [abs_if]⟩, rfl⟩ H
end
/-- a turn of a loop comes back to the word, lower -/
noncomputable def Turn {S : Type} (meas : S → Nat) (I : S → St → Prop) (x : S) (P : Value → St → Prop) (f : Flow) (σ : St) : Prop :=
  match f with
  | .next => ∃ y, meas y < meas x ∧ I y σ
  | .ret v => P v σ
  | _ => False
theorem Ex.while {c : FnS} {d : Dy} {σ : St} {test : PySem.Expr} {body rest : List Stmt} {pos : Pos} {P : Flow → St → Prop} {S : Type} (meas : S → Nat) (I : S → St → Prop) (tst : S → Prop) (x₀ : S) (h0 : I x₀ σ)
    (ht : ∀ x σ', I x σ' → TT c d σ' test (tst x)) (hb : ∀ x σ', I x σ' → tst x → Tr c d σ' (execs body (env c d)) (Turn meas I x fun v => P (.ret v))) (hr : ∀ x σ', I x σ' → ¬ tst x → Tr c d σ' (execs rest (env c d)) P) :
    Tr c d σ (execs (.While test body [] pos :: rest) (env c d)) P := by
  refine Ex.cons ?_
  intro s Q E H k
  refine wpAny_noRaise (whl_start 1 ?_)
  have all : ∀ n x σ' h' tk', meas x < n → I x σ' → Holds c d σ' h' → WhlRest PySem.Challenge.rw_nt0638_01.row.prog d.w (Ar c d) (fun _ _ => False) (env c d) test body [] Q 1 { s with heap := h', toks := tk' } := by
    intro n
    induction n with
    | zero => intro x σ' h' tk' h; exact absurd h (Nat.not_lt_zero _)
    | succ n ih =>
      intro x σ' h' tk' hm hx H'
      refine whl_turn (k := 0) PassesOwn.never (ht x σ' hx { s with heap := h', toks := tk' } _ _ H' ?_)
      rintro b σ2 h2 tk2 ⟨hb', rfl⟩ H2
      unfold WhlIf
      cases b with
      | false =>
        rw [if_neg Bool.false_ne_true]
        exact wpAny_execs_nil (k .next σ' h2 tk2 (hr x σ' hx (fun z => nomatch hb'.mpr z)) H2)
      | true =>
        rw [if_pos rfl]
        refine hb x σ' hx (hb'.mp rfl) { s with heap := h2, toks := tk2 } _ _ H2 fun f σ3 h3 tk3 hf H3 => ?_
        cases f with
        | next => obtain ⟨y, hy, hI⟩ := hf; exact ih y σ3 h3 tk3 (Nat.lt_of_lt_of_le hy (Nat.le_of_lt_succ hm)) hI H3
        | cont => exact hf.elim
        | brk => exact hf.elim
        | ret v => exact k (.ret v) σ3 h3 tk3 hf H3
  exact all _ x₀ σ s.heap s.toks (Nat.lt_succ_self _) h0 H
end Mine

namespace Mine
open PySem PySem.W PySem.Spec PySem.Calls PyProof.Rows

noncomputable abbrev tupOf (its : Array Value) (n : Nat) : Obj := { cls := .type "tuple", data := .seq its n }
theorem news_sub {g h : Heap} {L : Addr} {news news' : Led} (N : News g L h news') (s : ∀ p ∈ news, p ∈ news') : News g L h news := fun p hp => N p (s p hp)
theorem len_fits {n : Nat} (h : n ≤ 1000) : n ≤ sizeLine := by rw [PySem.sizeLine_eq]; exact Nat.le_trans h (by decide)
section
variable {c : FnS} {d : Dy} {σ : St} {pos p2 : Pos} {es : List PySem.Expr} {e : PySem.Expr} {PV : Value → St → Prop} {P : Flow → St → Prop} {PU : Unit → St → Prop} {rest : List Stmt} {x y z : Str} {u v : Value} {k : Nat}
/-- a display: a new object ahead of the ledger -/
theorem EP.tuple (ha : Args c d σ pos es (fun vs σ' => vs.length ≤ 1000 ∧ ∀ a, (∀ p ∈ σ'.news, p.1 < a) → PV (.ref a) ⟨σ'.m, (a, tupOf vs.toArray 0) :: σ'.news⟩)) : Tr c d σ (eval (.Tuple es k pos) (env c d)) PV := by
  intro s Q E H r
  refine Tuple_ (ha s _ E H ?_)
  rintro vs σ' h' tk' ⟨hl, hp⟩ ⟨g, G⟩
  refine newTuple_N G.fr G.nw (fun h2 F2 N2 => ?_) (len_fits hl)
  exact r _ _ h2 tk' (hp _ fun p hp => Heap.lt_size (G.nw p hp).1) (G.to F2 N2)
theorem EP.list (ha : Args c d σ pos es (fun vs σ' => vs.length ≤ 1000 ∧ ∀ a, (∀ p ∈ σ'.news, p.1 < a) → PV (.ref a) ⟨σ'.m, (a, listOf vs.toArray 0) :: σ'.news⟩)) : Tr c d σ (eval (.List es pos) (env c d)) PV := by
  intro s Q E H r
  refine List_ (ha s _ E H ?_)
  rintro vs σ' h' tk' ⟨hl, hp⟩ ⟨g, G⟩
  refine newList_K G.fr G.nw (fun l h2 F2 N2 lt => ?_) (len_fits hl)
  exact r _ _ h2 tk' (hp _ lt) (G.to F2 N2)
theorem Tr.bindName (hx : (env c d).kindOf x = some .local) (k : PU () ⟨upd σ.m x v, σ.news⟩) : Tr c d σ (bindName (env c d) x v) PU := by
  rintro s Q E ⟨g, G⟩ r
  exact bindName_ (storeX_L G.fr G.nw (fun h2 F2 N2 => r () ⟨upd σ.m x v, σ.news⟩ h2 _ k (G.to F2 N2)) G.ok.kind hx)
theorem Tr.aname (hx : (env c d).kindOf x = some .local) (k : PU () ⟨upd σ.m x v, σ.news⟩) : Tr c d σ (assign (.Name x pos) (env c d) v) PU := by
  rintro s Q E ⟨g, G⟩ r
  exact assign_Name (storeX_L G.fr G.nw (fun h2 F2 N2 => r () ⟨upd σ.m x v, σ.news⟩ h2 _ k (G.to F2 N2)) G.ok.kind hx)
theorem Tr.onil {xs : List Value} (k : PU () σ) : Tr c d σ (assignInOrder [] xs) PU := fun s _ _ H r => assignInOrder_nil (r () σ s.heap s.toks k H)
theorem Tr.ocons {t : Value → Sem Unit} {ts : List (Value → Sem Unit)} {xs : List Value} (h : Tr c d σ (t v) (fun _ σ' => Tr c d σ' (assignInOrder ts xs) PU)) : Tr c d σ (assignInOrder (t :: ts) (v :: xs)) PU := by
  intro s Q E H r
  exact assignInOrder_cons (h s _ E H fun _ σ' h' tk' hp H' => hp { s with heap := h', toks := tk' } _ E H' r)
theorem upd_comm (m : Str → Option Value) (h : x ≠ y) : upd (upd m x u) y v = upd (upd m y v) x u := by
  funext w
  unfold upd
  by_cases h1 : w = y
  · subst h1; rw [if_pos rfl, if_neg (Ne.symm h), if_pos rfl]
  · rw [if_neg h1]
    by_cases h2 : w = x
    · rw [if_pos h2, if_pos h2]
    · rw [if_neg h2, if_neg h2, if_neg h1]
/-- the targets take the values vs -/
noncomputable def Tgt (c : FnS) (d : Dy) (elts : List PySem.Expr) (names : Option (List Str)) (vs : List Value) (σ : St) (PU : Unit → St → Prop) : Prop := match names with
  | none => ((assignEach elts (env c d)).length = vs.length ∧ (assignEach elts (env c d)).findIdx? (·.1) = none) ∧ Tr c d σ (assignInOrder ((assignEach elts (env c d)).map (·.2)) vs) PU
  | some xs => vs.length = xs.length ∧ Tr c d σ (assignInOrder (xs.reverse.map fun n => PySem.bindName (env c d) n) vs.reverse) PU
/-- targets = (e, f, ..) -/
theorem Ex.tupG {elts : List PySem.Expr} {names : Option (List Str)} {tp vp : Pos} {tk vk : Nat} (ha : Args c d σ vp es (fun vs σ' => vs.length ≤ 1000 ∧ Tgt c d elts names vs σ' (fun _ σ2 => Tr c d σ2 (execs rest (env c d)) P)))
    (hs : swapsWithSole [.Tuple elts tk tp] (.Tuple es vk vp) pos.line (env c d) = Pure.pure false) (hw : swappedStores [.Tuple elts tk tp] (.Tuple es vk vp) (env c d) = Pure.pure names) : Tr c d σ (execs (.Assign [.Tuple elts tk tp] (.Tuple es vk vp) pos :: rest) (env c d)) P := by
  refine Ex.cons ?_
  intro s Q E H r
  have he : Tr c d σ (eval (.Tuple es vk vp) (env c d)) (fun v σ' => ∃ a vs news, v = .ref a ∧ σ'.news = (a, tupOf (List.toArray vs) 0) :: news ∧ Tgt c d elts names vs ⟨σ'.m, news⟩ (fun _ σ2 => Tr c d σ2 (execs rest (env c d)) P)) :=
    EP.tuple (Tr.mono ha fun vs σ' q => ⟨q.1, fun a _ => ⟨a, vs, _, rfl, rfl, q.2⟩⟩)
  cases names with
  | none =>
    refine Assign_Tuple (he s _ E H ?_) hs hw
    rintro _ ⟨m', _⟩ h' tk' ⟨a, vs, news, rfl, rfl, hl, hp⟩ ⟨g', H'⟩
    refine wpAny_assign_Tuple (items := vs.toArray) H'.ok.handled (News.isTup H'.nw (.head _)) (by rw [List.size_toArray]; exact hl.1) hl.2 (fun h2 hE => ?_)
    exact hp { s with heap := h2, toks := tk' } _ E (H'.to (H'.fr.extBut hE (Nat.le_refl _)) (news_sub (H'.nw.extBut hE (Nat.le_refl _)) fun _ h => .tail _ h)) fun _ σ3 h3 tk3 p3 H3 => r .next σ3 h3 tk3 p3 H3
  | some xs =>
    refine Assign_Tuple_swapped (he s _ E H ?_) hs hw
    rintro _ ⟨m', _⟩ h' tk' ⟨a, vs, news, rfl, rfl, hl, hp⟩ ⟨g', H'⟩
    refine unpackItemsN_ (items := vs.toArray) H'.fr H'.nw (News.isTup H'.nw (.head _)) H'.ok.handled (by rw [List.size_toArray]; exact hl.symm) (fun h2 F2 N2 => ?_)
    exact hp { s with heap := h2, toks := tk' } _ E (H'.to F2 (news_sub N2 fun _ h => .tail _ h)) fun _ σ3 h3 tk3 p3 H3 => r .next σ3 h3 tk3 p3 H3
/-- x, y = (e, f) -/
theorem Ex.tup2 {q1 q2 tp vp : Pos} {tk vk : Nat} (hne : x ≠ y)
    (ha : Args c d σ vp es (fun vs σ' => ∃ u v, vs = [u, v] ∧ Tr c d ⟨upd (upd σ'.m x u) y v, σ'.news⟩ (execs rest (env c d)) P))
    (hx : autoParam ((env c d).kindOf x = some .local) tacR) (hy : autoParam ((env c d).kindOf y = some .local) tacR) (hs : autoParam (swapsWithSole [.Tuple [.Name x q1, .Name y q2] tk tp] (.Tuple es vk vp) pos.line (env c d) = Pure.pure false) tacR)
    (hw : swappedStores [.Tuple [.Name x q1, .Name y q2] tk tp] (.Tuple es vk vp) (env c d) = Pure.pure none ∨ swappedStores [.Tuple [.Name x q1, .Name y q2] tk tp] (.Tuple es vk vp) (env c d) = Pure.pure (some [x, y]) := by first | exact Or.inl rfl | exact Or.inr rfl) :
    Tr c d σ (execs (.Assign [.Tuple [.Name x q1, .Name y q2] tk tp] (.Tuple es vk vp) pos :: rest) (env c d)) P := by
  rcases hw with hw | hw <;> refine Ex.tupG (Tr.mono ha ?_) hs hw <;> rintro _ σ' ⟨u, v, rfl, hp⟩
  · exact ⟨(by decide : 2 ≤ 1000), ⟨rfl, rfl⟩, Tr.ocons (Tr.aname hx (Tr.ocons (Tr.aname hy (Tr.onil hp))))⟩
  · rw [upd_comm σ'.m hne] at hp
    exact ⟨(by decide : 2 ≤ 1000), rfl, Tr.ocons (Tr.bindName hy (Tr.ocons (Tr.bindName hx (Tr.onil hp))))⟩
theorem Ex.tup3 {z : Str} {q1 q2 q3 tp vp : Pos} {tk vk : Nat} (ha : Args c d σ vp es (fun vs σ' => ∃ u v w, vs = [u, v, w] ∧ Tr c d ⟨upd (upd (upd σ'.m z w) y v) x u, σ'.news⟩ (execs rest (env c d)) P))
    (hx : autoParam ((env c d).kindOf x = some .local) tacR) (hy : autoParam ((env c d).kindOf y = some .local) tacR) (hz : autoParam ((env c d).kindOf z = some .local) tacR) (hs : autoParam (swapsWithSole [.Tuple [.Name x q1, .Name y q2, .Name z q3] tk tp] (.Tuple es vk vp) pos.line (env c d) = Pure.pure false) tacR)
    (hw : autoParam (swappedStores [.Tuple [.Name x q1, .Name y q2, .Name z q3] tk tp] (.Tuple es vk vp) (env c d) = Pure.pure (some [x, y, z])) tacR) :
    Tr c d σ (execs (.Assign [.Tuple [.Name x q1, .Name y q2, .Name z q3] tk tp] (.Tuple es vk vp) pos :: rest) (env c d)) P := by
  refine Ex.tupG (Tr.mono ha ?_) hs hw
  rintro _ σ' ⟨u, v, w, rfl, hp⟩
  exact ⟨(by decide : 3 ≤ 1000), rfl, Tr.ocons (Tr.bindName hz (Tr.ocons (Tr.bindName hy (Tr.ocons (Tr.bindName hx (Tr.onil hp))))))⟩
theorem Ex.tupA {elts : List PySem.Expr} {tp vp : Pos} {tk vk : Nat} (ha : Args c d σ vp es (fun vs σ' => vs.length ≤ 1000 ∧ (assignEach elts (env c d)).length = vs.length ∧ Tr c d σ' (assignInOrder ((assignEach elts (env c d)).map (·.2)) vs) (fun _ σ2 => Tr c d σ2 (execs rest (env c d)) P)))
    (hf : autoParam ((assignEach elts (env c d)).findIdx? (·.1) = none) tacR) (hs : autoParam (swapsWithSole [.Tuple elts tk tp] (.Tuple es vk vp) pos.line (env c d) = Pure.pure false) tacR) (hw : autoParam (swappedStores [.Tuple elts tk tp] (.Tuple es vk vp) (env c d) = Pure.pure none) tacR) :
    Tr c d σ (execs (.Assign [.Tuple elts tk tp] (.Tuple es vk vp) pos :: rest) (env c d)) P :=
  Ex.tupG (names := none) (Tr.mono ha fun _ _ q => ⟨q.1, ⟨q.2.1, hf⟩, q.2.2⟩) hs hw
end
end Mine

namespace Mine
open PySem PySem.W PySem.Spec PySem.Calls PyProof.Rows
theorem fill__j_C5 : (PySem.Challenge.rw_nt0638_01, KK) = (PySem.Challenge.rw_nt0638_01, KK) := by k_fill; rfl
noncomputable abbrev rgIt (i n : Nat) : Obj := { cls := .type "range_iterator", dict := none, data := .fields #[rawInt ((0 : Int) + (i : Nat) * 1), rawInt ((n : Int) - (i : Nat)), rawInt 1], slots := #[] }
theorem g_range (w : World) : nsIn (KK w.params) mainGlobals (Str.ofString "range") = some none := by k_is
/-- a turn's end: the iterator stands, J holds of the rest -/
noncomputable def RTurn (I : Addr) (o : Obj) (J : St → Prop) (f : Flow) (σ : St) : Prop := f = .next ∧ ∃ nx, (∀ p ∈ (I, o) :: nx, p ∈ σ.news) ∧ (∀ p ∈ nx, p.1 ≠ I) ∧ J ⟨σ.m, nx⟩
theorem Holds.drop {c : FnS} {d : Dy} {m : Str → Option Value} {big small : Led} {h : Heap} (H : Holds c d ⟨m, big⟩ h) (hs : ∀ p ∈ small, p ∈ big) : Holds c d ⟨m, small⟩ h := let ⟨_, G⟩ := H; G.to G.fr (news_sub G.nw hs)
/-- between the turns -/
inductive Turns (c : FnS) (d : Dy) (s : Shared) (I : Addr) (n : Nat) (K : Nat → Obj → Prop) (J : Nat → St → Prop) (k : Nat) (s' : Shared) : Prop where
  | mk (h : Heap) (tk i : Nat) (o : Obj) (m : Str → Option Value) (nx : Led) : s' = { s with heap := h, toks := tk } → k + i = n → Holds c d ⟨m, (I, o) :: nx⟩ h → K i o → J i ⟨m, nx⟩ → (∀ p ∈ nx, p.1 ≠ I) → Turns c d s I n K J k s'
theorem holds_iter {c : FnS} {d : Dy} {m : Str → Option Value} {I : Addr} {o : Obj} {nx : Led} {h h' : Heap} (H : Holds c d ⟨m, (I, o) :: nx⟩ h) (hI : ∀ p ∈ nx, p.1 ≠ I) (hk : ∀ b x, b ∉ [I] → h.get? b = some x → h'.get? b = some x) :
    Holds c d ⟨m, nx⟩ h' ∧ ∀ o', h'.get? I = some o' → Holds c d ⟨m, (I, o') :: nx⟩ h' := by
  obtain ⟨g, H⟩ := H
  obtain ⟨-, n1, n2⟩ := H.nw _ (.head _)
  have F : Fr g d.L h' m := ⟨H.fr.ns.at' fun x e => hk _ x (fun q => n1 (List.mem_singleton.mp q).symm) e, fun b x e => hk b x (fun q => by rw [List.mem_singleton.mp q, n2] at e; cases e) (H.fr.keep b x e), H.fr.above⟩
  have N : News g d.L h' nx := fun p hp => let t := H.nw p (.tail _ hp); ⟨hk _ _ (fun q => hI p hp (List.mem_singleton.mp q)) t.1, t.2⟩
  exact ⟨H.to F N, fun o' ho => H.to F fun p hp => (List.mem_cons.mp hp).elim (fun e => e ▸ ⟨ho, n1, n2⟩) (N p)⟩
theorem for_run {c : FnS} {d : Dy} {x : Str} {px : Pos} {body : List Stmt} {I : Addr} {fp : List Addr} {n : Nat} {V : Nat → Value → Prop} {S : Nat → Heap → Prop} {K : Nat → Obj → Prop} {hold : Led} {J : Nat → St → Prop} {R : Result → Shared → Prop} {s : Shared} {o₀ : Obj} {σ : St}
    (W : Walks PySem.Challenge.rw_nt0638_01.row.prog d.w (Ar c d) I fp [I] n V S) (toS : ∀ i h o, h.get? I = some o → K i o → (∀ p ∈ hold, h.get? p.1 = some p.2) → S i h) (ofS : ∀ i h, S i h → ∃ o, h.get? I = some o ∧ K i o) (hJ : ∀ i σ, J i σ → ∀ p ∈ hold, p ∈ σ.news)
    (turn : ∀ i v o m nx, i < n → V i v → K (i + 1) o → J i ⟨m, nx⟩ → (∀ p ∈ nx, p.1 ≠ I) → Tr c d ⟨upd m x v, (I, o) :: nx⟩ (execs body (env c d)) (RTurn I o (J (i + 1)))) (hx : (env c d).kindOf x = some .local)
    (H : Holds c d ⟨σ.m, (I, o₀) :: σ.news⟩ s.heap) (k0 : K 0 o₀) (j0 : J 0 σ) (ne : ∀ p ∈ σ.news, p.1 ≠ I) (hR : ∀ m nx h' tk', J n ⟨m, nx⟩ → Holds c d ⟨m, nx⟩ h' → R (.ok .next) { s with heap := h', toks := tk' }) :
    codeAny (model PySem.Challenge.rw_nt0638_01.row.prog d.w) (Ar c d) (.forLoop (.Name x px) (.ref I) body [] (env c d)) R s := by
  refine codeAny_forLoop (Turns c d s I n K J) ?_ n ⟨_, s.toks, 0, o₀, σ.m, σ.news, rfl, Nat.add_zero _, H, k0, j0, ne⟩
  rintro k s' ⟨h, tk, i, o, m, nx, rfl, le, hs, ko, hj, hne⟩
  have st : S i h := hs.elim fun g G => toS i h o (G.nw _ (.head _)).1 ko fun p hp => (G.nw p (.tail _ (hJ i _ hj p hp))).1
  cases k with
  | zero =>
    obtain rfl : i = n := (Nat.zero_add i).symm.trans le
    exact W.done { s with heap := h, toks := tk } _ _ st fun h5 tk5 hk => wpAny_execs_nil (hR m nx h5 tk5 hj (holds_iter hs hne hk).1)
  | succ k =>
    refine W.item i { s with heap := h, toks := tk } _ _ (le ▸ Nat.lt_add_of_pos_left (Nat.succ_pos k)) st fun v h5 tk5 hv st5 hk => ?_
    obtain ⟨o5, ho, ko5⟩ := ofS _ _ st5
    refine Tr.aname (v := v) (PU := fun _ σ' => σ' = ⟨upd m x v, (I, o5) :: nx⟩) hx rfl { s with heap := h5, toks := tk5 } _ _ ((holds_iter hs hne hk).2 o5 ho) ?_
    rintro _ _ h6 tk6 rfl H6
    refine turn i v o5 m nx (le ▸ Nat.lt_add_of_pos_left (Nat.succ_pos k)) hv ko5 hj hne { s with heap := h6, toks := tk6 } _ _ H6 ?_
    rintro _ ⟨m7, n7⟩ h7 tk7 ⟨rfl, nx7, hsub, hne7, hJ7⟩ H7
    exact ⟨k, Nat.lt_succ_self k, h7, tk7, i + 1, o5, m7, nx7, rfl, by rw [← le, Nat.add_right_comm]; rfl, H7.drop hsub, ko5, hJ7, hne7⟩
theorem range_all : ∀ k : Fin 16, Builtin.Range.small 0 ((k : Nat) : Int) 1 = true ∧ Builtin.Range.rangeSize 0 ((k : Nat) : Int) 1 = ((k : Nat) : Int) := by decide
theorem small_range {n : Nat} (hn : n ≤ 15) : Builtin.Range.small 0 n 1 = true ∧ Builtin.Range.rangeSize 0 n 1 = (n : Int) := range_all ⟨n, Nat.lt_succ_of_le hn⟩
theorem Ex.forRange {c : FnS} {d : Dy} {σ : St} {x : Str} {px rp cp pos : Pos} {e : PySem.Expr} {body rest : List Stmt} {P : Flow → St → Prop} {n : Nat} (he : EP c d σ e (IsI n)) (hn : n ≤ 15) (J : Nat → St → Prop) (h0 : J 0 σ)
    (turn : ∀ I, (∀ p ∈ σ.news, p.1 < I) → ∀ (i : Nat) t m nx, i < n → J i ⟨m, nx⟩ → (∀ p ∈ nx, p.1 ≠ I) → Tr c d ⟨upd m x (.int i t), (I, rgIt (i + 1) n) :: nx⟩ (execs body (env c d)) (RTurn I (rgIt (i + 1) n) (J (i + 1))))
    (done : ∀ m nx, J n ⟨m, nx⟩ → Tr c d ⟨m, nx⟩ (execs rest (env c d)) P)
    (hx : autoParam ((env c d).kindOf x = some .local) tacR) (hr : autoParam ((env c d).kindOf (Str.ofString "range") = some .globalImplicit) tacR) (hst : autoParam (starEach [e] (env c d) = [(false, eval e (env c d))]) tacR)
    (hs : ∀ v, foldedSetIterable (.Call (.Name (Str.ofString "range") rp) [e] [] cp) (env c d) v = Pure.pure v := by exact fun _ => rfl)
    (hc : autoParam (eval (.Call (.Name (Str.ofString "range") rp) [e] [] cp) (env c d) = (do callWith cp (← eval (.Name (Str.ofString "range") rp) (env c d)) [] (backTo cp (starEach [e] (env c d))) (backToKw cp (keywordEach [] (env c d))))) tacR) :
    Tr c d σ (execs (.For (.Name x px) (.Call (.Name (Str.ofString "range") rp) [e] [] cp) body [] pos :: rest) (env c d)) P := by
  refine Ex.cons ?_
  intro s Q E H r
  refine wpAny_noRaise (wpAny_For (Call_ (EP.built (g_range _) boot_range (by decide) hr rfl s _ _ H ?_) hc) hs)
  rintro _ σ' h1 tk1 ⟨rfl, rfl⟩ H1
  refine callWith_type1 ?_ hst (by rfl)
  refine Args.p (P := fun vs σ' => σ = σ' ∧ ∃ t, vs = [.int (n : Int) t]) he (by rintro _ ⟨t, rfl⟩; exact Args.nil ⟨rfl, t, rfl⟩) hst { s with heap := h1, toks := tk1 } _ _ H1 ?_
  rintro _ σ' h2 tk2 ⟨rfl, t, rfl⟩ ⟨g, G⟩
  refine range1_rows G.fr G.nw fun h3 tk3 t1 u1 v1 hR F3 N3 _ => ?_
  refine wpAny_pyIter_range hR (small_range hn).1 ?_
  rw [(small_range hn).2]
  have hlt : ∀ p ∈ σ.news, p.1 < h3.objs.size := fun p hp => Heap.lt_size (N3 p hp).1
  refine for_run (σ := σ) (hold := []) (K := fun i o => o = rgIt i n) (J := J) (Walks.range (prog := PySem.Challenge.rw_nt0638_01.row.prog) (w := d.w) (A := Ar c d) G.ok.handled h3.objs.size 0 1 n) (fun i h o e k _ => e.trans (congrArg some k)) (fun i h st => ⟨_, st, rfl⟩) (fun _ _ _ _ h => (nomatch h)) ?_ hx (G.to (F3.push _) (N3.push F3 _)) rfl h0 (fun p hp => Nat.ne_of_lt (hlt p hp)) fun m nx h' tk' hj H' => r .next ⟨m, nx⟩ h' tk' (done m nx hj) H'
  rintro i v o m nx hin ⟨t, rfl⟩ rfl hj hne
  rw [Int.mul_one, Int.zero_add]
  exact turn _ hlt i t m nx hin hj hne
end Mine

namespace Mine
open PySem PySem.W PySem.Spec PySem.Calls PyProof.Rows

section
variable {α : Type} {c : FnS} {d : Dy} {σ : St} {t : Sem α} {P P' : α → St → Prop} {e ie a b x l r r2 : PySem.Expr} {pos lp : Pos} {p q : Prop} {R Ra Rb Rc : Value → Prop} {PV P₁ : Value → St → Prop} {es xs : List PySem.Expr}
/-- what is no more asked for leaves the ledger -/
theorem Tr.drop (h : Tr c d σ t P) (k : ∀ v m big, P v ⟨m, big⟩ → ∃ small, (∀ p ∈ small, p ∈ big) ∧ P' v ⟨m, small⟩) : Tr c d σ t P' := by
  intro s Q E H r
  refine h s Q E H ?_
  rintro v ⟨m, big⟩ h' tk' hp H'
  obtain ⟨small, hs, hp'⟩ := k v m big hp
  exact r v ⟨m, small⟩ h' tk' hp' (H'.drop hs)
theorem Tr.sub (hv : Tr c d σ (eval e (env c d)) P₁) (hi : ∀ v σ', P₁ v σ' → Tr c d σ' (eval ie (env c d)) (fun i σ2 => Tr c d σ2 (subscriptTail e ie v i) PV)) : Tr c d σ (eval (.Subscript e ie pos) (env c d)) PV := by
  intro s Q E H k
  refine Subscript_ (hv s _ E H fun v σ' h' tk' hp H' => ?_)
  exact hi v σ' hp { s with heap := h', toks := tk' } _ E H' fun i σ2 h2 tk2 h3 H2 => h3 { s with heap := h2, toks := tk2 } Q E H2 k
theorem Tr.itemL {ad : Addr} {its : Array Value} {n : Nat} {k : Int} {u : Tok} {v : Value} (hm : (ad, listOf its n) ∈ σ.news) (h0 : 0 ≤ k) (hk : k < 2 ^ 63) (hx : its[k.toNat]? = some v) (h : PV v σ)
    (hs : autoParam (subscripted ie false (.ref ad) (.int k u) = operate [.ref ad, .int k u] (getItem (.ref ad) (.int k u))) tacR) : Tr c d σ (subscriptTail e ie (.ref ad) (.int k u)) PV := by
  rintro s Q E H r
  obtain ⟨g, G⟩ := id H
  have hL := News.isList G.nw hm
  exact tail_any hL.typeIs slot_list_getitem.lookup (wpAny_getItem_list hL h0 hk hx (r v σ s.heap s.toks h H)) hs
theorem Tr.itemT {ad : Addr} {its : List Value} {n : Nat} {k : Int} {u : Tok} {v : Value} {j : Nat} (hm : (ad, tupOf its.toArray n) ∈ σ.news) (h0 : 0 ≤ k) (hk : k < 2 ^ 63) (hj : seqIndex? k its.length = some j) (hx : its[j]? = some v) (h : PV v σ)
    (hs : autoParam (subscripted ie false (.ref ad) (.int k u) = operate [.ref ad, .int k u] (getItem (.ref ad) (.int k u))) tacR) : Tr c d σ (subscriptTail e ie (.ref ad) (.int k u)) PV := by
  rintro s Q E H r
  obtain ⟨g, G⟩ := id H
  exact item_tupleT (News.isTup G.nw hm) (Int.le_trans (by decide) h0) hk hj hx (r v σ s.heap s.toks h H) hs
/-- [..][k] -/
theorem EP.pick {k : Int} (ha : Args c d σ lp es (fun vs σ' => σ = σ' ∧ vs.length ≤ 1000 ∧ ∃ v, vs[k.toNat]? = some v ∧ R v)) (hi : ∀ news, EP c d ⟨σ.m, news⟩ ie (IsI k)) (h0 : 0 ≤ k) (hk : k < 2 ^ 63)
    (hs : ∀ o i, subscripted ie false o i = operate [o, i] (getItem o i) := by exact fun _ _ => rfl) : EP c d σ (.Subscript (.List es lp) ie pos) R := by
  intro s Q E H r
  refine Subscript_ (EP.list (PV := fun v σ' => ∃ ad vs v0, v = .ref ad ∧ σ' = ⟨σ.m, (ad, listOf (List.toArray vs) 0) :: σ.news⟩ ∧ vs[k.toNat]? = some v0 ∧ R v0) (Tr.mono ha ?_) s _ E H ?_)
  · rintro vs σ' ⟨rfl, hl, v, hv, hR⟩
    exact ⟨hl, fun ad _ => ⟨ad, vs, v, rfl, rfl, hv, hR⟩⟩
  rintro _ _ h' tk' ⟨ad, vs, v, rfl, rfl, hv, hR⟩ H'
  refine hi _ { s with heap := h', toks := tk' } _ E H' ?_
  rintro _ _ h2 tk2 ⟨⟨t, rfl⟩, rfl⟩ H2
  exact Tr.itemL (σ := ⟨σ.m, (ad, listOf (List.toArray vs) 0) :: σ.news⟩) (PV := fun v σ' => R v ∧ σ' = ⟨σ.m, (ad, listOf (List.toArray vs) 0) :: σ.news⟩) (.head _) h0 hk (by rw [List.getElem?_toArray]; exact hv) ⟨hR, rfl⟩ (hs _ _) { s with heap := h2, toks := tk2 } Q E H2 fun v σ' h3 tk3 q H3 => r v σ h3 tk3 ⟨q.1, rfl⟩ ((q.2 ▸ H3 : Holds c d ⟨σ.m, (ad, listOf (List.toArray vs) 0) :: σ.news⟩ h3).drop fun _ h => .tail _ h)
theorem EP.none {k : Nat} : EP c d σ (.Constant .none k pos) (fun v => v = .none) := fun s _ _ H r => Constant_none (r _ σ s.heap s.toks ⟨rfl, rfl⟩ H)
theorem EP.bool {k : Nat} {bv : Bool} : EP c d σ (.Constant (.bool bv) k pos) (fun v => v = .bool bv) := fun s _ _ H r => Constant_bool (r _ σ s.heap s.toks ⟨rfl, rfl⟩ H)
theorem cmp_is {u : Value} : CmpOk .Is (fun v => v = u) (fun v => v = .none) (u = .none) := by
  rintro w A s Q E _ _ rfl rfl k
  exact is_none (k _ s.toks beq_iff_eq)
theorem cmp_isnot {u : Value} : CmpOk .IsNot (fun v => v = u) (fun v => v = .none) (u ≠ .none) := by
  rintro w A s Q E _ _ rfl rfl k
  exact isNot_none (k _ s.toks (by simp))
noncomputable def TAnd (c : FnS) (d : Dy) (σ : St) (xs : List PySem.Expr) (pos : Pos) (p : Prop) : Prop := ∀ whole, Tr c d σ (isTrue (.BoolOp .And xs pos) (env c d) whole) (fun b σ' => (b = true ↔ p) ∧ σ = σ')
noncomputable def TOr (c : FnS) (d : Dy) (σ : St) (xs : List PySem.Expr) (pos : Pos) (p : Prop) : Prop := ∀ whole, Tr c d σ (isTrue (.BoolOp .Or xs pos) (env c d) whole) (fun b σ' => (b = true ↔ p) ∧ σ = σ')
theorem TAnd.nil : TAnd c d σ [] pos True := fun _ s _ _ H k => isTrue_and_nil (k _ σ s.heap s.toks ⟨by simp, rfl⟩ H)
theorem TOr.nil : TOr c d σ [] pos False := fun _ s _ _ H k => isTrue_or_nil (k _ σ s.heap s.toks ⟨by simp, rfl⟩ H)
theorem TAnd.cons (hx : TT c d σ x p) (hr : p → TAnd c d σ xs pos q) : TAnd c d σ (x :: xs) pos (p ∧ q) := by
  intro whole s Q E H k
  refine isTrue_and (hx s _ E H ?_)
  rintro bv σ' h' tk' ⟨hb, rfl⟩ H'
  cases bv with
  | true =>
    refine hr (hb.mp rfl) whole { s with heap := h', toks := tk' } _ E H' ?_
    rintro b2 σ' h2 tk2 ⟨hb2, rfl⟩ H2
    exact k b2 σ h2 tk2 ⟨⟨fun z => ⟨hb.mp rfl, hb2.mp z⟩, fun z => hb2.mpr z.2⟩, rfl⟩ H2
  | false => exact k false σ h' tk' ⟨⟨fun z => (nomatch z), fun z => hb.mpr z.1⟩, rfl⟩ H'
theorem TOr.cons (hx : TT c d σ x p) (hr : ¬ p → TOr c d σ xs pos q) : TOr c d σ (x :: xs) pos (p ∨ q) := by
  intro whole s Q E H k
  refine isTrue_or (hx s _ E H ?_)
  rintro bv σ' h' tk' ⟨hb, rfl⟩ H'
  cases bv with
  | true => exact k true σ h' tk' ⟨⟨fun _ => .inl (hb.mp rfl), fun _ => rfl⟩, rfl⟩ H'
  | false =>
    have np : ¬ p := fun z => nomatch hb.mpr z
    refine hr np whole { s with heap := h', toks := tk' } _ E H' ?_
    rintro b2 σ' h2 tk2 ⟨hb2, rfl⟩ H2
    exact k b2 σ h2 tk2 ⟨⟨fun z => .inr (hb2.mp z), fun z => hb2.mpr (z.resolve_left np)⟩, rfl⟩ H2
theorem TT.and (h : TAnd c d σ xs pos p) : TT c d σ (.BoolOp .And xs pos) p := h _
theorem TT.or (h : TOr c d σ xs pos p) : TT c d σ (.BoolOp .Or xs pos) p := h _
theorem TT.or2 (ha : TT c d σ a p) (hb : ¬ p → TT c d σ b q) : TT c d σ (.BoolOp .Or [a, b] pos) (p ∨ q) := TT.mono (TT.or (TOr.cons ha fun h => TOr.cons (hb h) fun _ => TOr.nil)) (by rw [or_false])
theorem TT.and2 (ha : TT c d σ a p) (hb : p → TT c d σ b q) : TT c d σ (.BoolOp .And [a, b] pos) (p ∧ q) := TT.mono (TT.and (TAnd.cons ha fun h => TAnd.cons (hb h) fun _ => TAnd.nil)) (by rw [and_true])
/-- a and b and .. of truth values, as a value -/
theorem EP.and1 (h : EP c d σ a R) : EP c d σ (.BoolOp .And [a] pos) R := fun s Q E H k => BoolOp_one (h s Q E H k)
theorem EP.and (ha : EP c d σ a (IsP p)) (hr : p → EP c d σ (.BoolOp .And (b :: xs) pos) (IsP q)) : EP c d σ (.BoolOp .And (a :: b :: xs) pos) (IsP (p ∧ q)) := by
  intro s Q E H k
  refine BoolOp_and (ha s _ E H ?_)
  rintro _ σ' h' tk' ⟨⟨bv, rfl, hb⟩, rfl⟩ H'
  refine wpAny_truthy_bool ?_
  cases bv with
  | true =>
    refine hr (hb.mp rfl) { s with heap := h', toks := tk' } _ E H' ?_
    rintro _ σ' h2 tk2 ⟨⟨b2, rfl, hb2⟩, rfl⟩ H2
    exact k _ σ h2 tk2 ⟨⟨b2, rfl, ⟨fun z => ⟨hb.mp rfl, hb2.mp z⟩, fun z => hb2.mpr z.2⟩⟩, rfl⟩ H2
  | false => exact k _ σ h' tk' ⟨⟨false, rfl, ⟨fun z => (nomatch z), fun z => hb.mpr z.1⟩⟩, rfl⟩ H'
theorem EP.cmp2 {op1 op2 : CmpOp} (hl : EP c d σ l Ra) (hr : EP c d σ r Rb) (h2 : EP c d σ r2 Rc) (ho : CmpOk op1 Ra Rb p) (ho2 : CmpOk op2 Rb Rc q) (hm : autoParam (lastMarks [op1, op2] [r, r2] = false) tacR) : EP c d σ (.Compare l [op1, op2] [r, r2] pos) (IsP (p ∧ q)) := by
  intro s Q E H k
  refine Compare_chain (hl s _ E H ?_) hm
  rintro u σ' h' tk' ⟨hu, rfl⟩ H'
  refine chain_link (hr { s with heap := h', toks := tk' } _ E H' ?_)
  rintro v σ' h3 tk3 ⟨hv, rfl⟩ H3
  refine ho d.w _ { s with heap := h3, toks := tk3 } _ E u v hu hv fun bv tk4 hb => wpAny_truthy_bool ?_
  cases bv with
  | true =>
    refine chain_last (h2 { s with heap := h3, toks := tk4 } _ E H3 ?_)
    rintro w σ' h5 tk5 ⟨hw, rfl⟩ H5
    exact ho2 d.w _ { s with heap := h5, toks := tk5 } _ E v w hv hw fun b2 tk6 hb2 => k _ σ h5 tk6 ⟨⟨b2, rfl, ⟨fun z => ⟨hb.mp rfl, hb2.mp z⟩, fun z => hb2.mpr z.2⟩⟩, rfl⟩ H5
  | false => exact k _ σ h3 tk4 ⟨⟨false, rfl, ⟨fun z => (nomatch z), fun z => hb.mpr z.1⟩⟩, rfl⟩ H3
theorem TT.cmp2 {op1 op2 : CmpOp} (hl : EP c d σ l Ra) (hr : EP c d σ r Rb) (h2 : EP c d σ r2 Rc) (ho : CmpOk op1 Ra Rb p) (ho2 : CmpOk op2 Rb Rc q) (hm : autoParam (lastMarks [op1, op2] [r, r2] = false) tacR) : TT c d σ (.Compare l [op1, op2] [r, r2] pos) (p ∧ q) := by
  intro s Q E H k
  refine isTrue_chain (hl s _ E H ?_) hm
  rintro u σ' h' tk' ⟨hu, rfl⟩ H'
  refine test_link (hr { s with heap := h', toks := tk' } _ E H' ?_)
  rintro v σ' h3 tk3 ⟨hv, rfl⟩ H3
  refine ho d.w _ { s with heap := h3, toks := tk3 } _ E u v hu hv fun bv tk4 hb => wpAny_truthy_bool ?_
  cases bv with
  | true =>
    refine test_last (h2 { s with heap := h3, toks := tk4 } _ E H3 ?_)
    rintro w σ' h5 tk5 ⟨hw, rfl⟩ H5
    exact ho2 d.w _ { s with heap := h5, toks := tk5 } _ E v w hv hw fun b2 tk6 hb2 => wpAny_truthy_bool (k _ σ h5 tk6 ⟨⟨fun z => ⟨hb.mp rfl, hb2.mp z⟩, fun z => hb2.mpr z.2⟩, rfl⟩ H5)
  | false => exact k _ σ h3 tk4 ⟨⟨fun z => (nomatch z), fun z => hb.mpr z.1⟩, rfl⟩ H3
end
end Mine

namespace Mine
open PySem PySem.W PySem.Spec PySem.Calls PyProof.Rows
theorem fill__j_C7 : (PySem.Challenge.rw_nt0638_01, KK) = (PySem.Challenge.rw_nt0638_01, KK) := by k_fill; rfl
/-- the ledger but for one address -/
noncomputable def rest (a : Addr) (news : Led) : Led := news.filter fun p => p.1 != a
theorem rest_ne {a : Addr} {news : Led} : ∀ p ∈ rest a news, p.1 ≠ a := fun p hp => by simpa using (List.mem_filter.mp hp).2
theorem rest_sub {a : Addr} {news : Led} : ∀ p ∈ rest a news, p ∈ news := fun p hp => (List.mem_filter.mp hp).1
theorem mem_rest {a : Addr} {news : Led} {p : Addr × Obj} (h : p ∈ news) (hne : p.1 ≠ a) : p ∈ rest a news := List.mem_filter.mpr ⟨h, by simpa using hne⟩
theorem Holds.split {c : FnS} {d : Dy} {m : Str → Option Value} {news : Led} {h : Heap} {a : Addr} {o : Obj} (H : Holds c d ⟨m, news⟩ h) (hm : (a, o) ∈ news) : Holds c d ⟨m, (a, o) :: rest a news⟩ h :=
  H.drop fun p hp => (List.mem_cons.mp hp).elim (fun e => e ▸ hm) fun q => rest_sub p q

structure AttrOk (w : World) (C : Addr) (name : Str) : Prop where
  pg : plainGet (KK w.params) C name = true
  hh : hasDictIn (KK w.params) C = true
  fi : findIn (KK w.params) (.ref C) name = some none
structure SetOk (w : World) (C : Addr) (name : Str) : Prop where
  fs : findIn (KK w.params) (.ref C) "__setattr__" = some (some (.builtin "object.__setattr__"))
  po : plainOver (KK w.params) C = true
  tk : takerIn (KK w.params) C name = some none
  hh : hasDictIn (KK w.params) C = true

theorem isStr_str {x y : Str} {t : Tok} : (Value.str x t).isStr y = (x == y) := rfl
theorem getL_put_same {name : Str} {hsh : Int} {t : Tok} {v : Value} : ∀ {es : List DictEntry}, getL name (putL name hsh (.str name t) v es) = some (some v)
  | [] => by simp [getL, putL, isStr_str]
  | e :: r => by
    have ih := @getL_put_same name hsh t v r
    unfold putL
    by_cases h : e.key.isStr name = true
    · rw [if_pos h]; unfold getL; simp [h]
    · rw [if_neg h]
      rw [Bool.not_eq_true] at h
      unfold getL at ih ⊢
      simp only [List.find?_cons, h, List.any_cons]
      generalize hf : List.find? (fun x => x.key.isStr name) (putL name hsh (.str name t) v r) = o at ih ⊢
      cases o with
      | some e' => exact ih
      | none => dsimp only at ih; split at ih <;> cases ih
theorem putL_any (name : Str) (hsh : Int) (t : Tok) (v : Value) : ∀ es : List DictEntry, (putL name hsh (.str name t) v es).any (·.refKey) = es.any (·.refKey)
  | [] => rfl
  | e :: r => by
    unfold putL
    by_cases h : e.key.isStr name = true
    · rw [if_pos h]; rfl
    · rw [if_neg h, List.any_cons, List.any_cons, putL_any name hsh t v r]
theorem putL_find_other {name other : Str} (hne : name ≠ other) (hsh : Int) (t : Tok) (v : Value) : ∀ es : List DictEntry, ((putL name hsh (.str name t) v es).find? (·.key.isStr other)).map (·.val) = (es.find? (·.key.isStr other)).map (·.val)
  | [] => by simp [putL, isStr_str, hne]
  | e :: r => by
    unfold putL
    by_cases h : e.key.isStr name = true
    · have h' : e.key.isStr other = false := by
        cases q : e.key.isStr other with
        | false => rfl
        | true => exact absurd (Value.isStr_inj _ _ _ h q) hne
      rw [if_pos h]
      simp [h']
    · rw [if_neg h]
      simp only [List.find?_cons]
      cases e.key.isStr other with
      | true => rfl
      | false => exact putL_find_other hne hsh t v r
theorem getL_put_other {name other : Str} {hsh : Int} {t : Tok} {v : Value} {es : List DictEntry} (hne : name ≠ other) : getL other (putL name hsh (.str name t) v es) = getL other es := by
  have h := putL_find_other hne hsh t v es
  have h2 := putL_any name hsh t v es
  unfold getL
  rw [h2]
  cases h3 : (putL name hsh (.str name t) v es).find? (·.key.isStr other) <;> cases h4 : es.find? (·.key.isStr other) <;> rw [h3, h4] at h <;> simp at h
  all_goals first | rfl | (dsimp only; rw [h])
theorem putL_len {name : Str} {hsh : Int} {k v : Value} : ∀ {es : List DictEntry}, (putL name hsh k v es).length ≤ es.length + 1
  | [] => Nat.le_refl _
  | e :: r => by
    have := @putL_len name hsh k v r
    unfold putL
    split <;> simp only [List.length_cons] <;> omega

section
variable {c : FnS} {d : Dy} {σ : St} {e : PySem.Expr} {pos : Pos} {PV : Value → St → Prop} {PU : Unit → St → Prop} {x dx C : Addr} {es : List DictEntry} {n : Nat} {v : Value} {name : Str}
theorem Tr.getAttr (A : AttrOk d.w C name) (hx : (x, instObj C dx) ∈ σ.news) (hd : (dx, dictOf es n) ∈ σ.news) (hl : getL name es = some (some v)) (hv : handedIn v = true) (k : PV v σ) : Tr c d σ (getAttr (.ref x) name true) PV := by
  intro s Q E H r
  obtain ⟨g, G⟩ := id H
  exact get_own G.fr G.x (InstAt.of_news G.nw hx hd) A.pg A.hh A.fi rfl hl hv (r v σ s.heap _ k H)
theorem EP.attr (A : AttrOk d.w C name) (he : EP c d σ e (fun v => v = .ref x)) (hx : (x, instObj C dx) ∈ σ.news) (hd : (dx, dictOf es n) ∈ σ.news) (hl : getL name es = some (some v)) (hv : handedIn v = true)
    (hc : autoParam (eval (.Attribute e name pos) (env c d) = (do let o ← eval e (env c d); standAt pos.atName; let r ← holding [o] (PySem.getAttr o name true); letTemporaryGo e o r; Pure.pure r)) tacR) : EP c d σ (.Attribute e name pos) (fun u => u = v) := by
  intro s Q E H k
  refine Attribute_any_ (he s _ E H ?_) hc
  rintro _ σ' h' tk' ⟨rfl, rfl⟩ H'
  exact Tr.getAttr A hx hd hl hv ⟨rfl, rfl⟩ { s with heap := h', toks := tk' } Q E H' k
theorem Tr.setAttr (S : SetOk d.w C name) (hx : (x, instObj C dx) ∈ σ.news) (hne : x ≠ dx) (hd : (dx, dictOf es n) ∈ σ.news) (hl : (getL name es).isSome = true) (hz : es.length ≤ 900)
    (k : ∀ h t, PU () ⟨σ.m, (dx, dictOf (putL name h (.str name t) v es) (putN name es n)) :: rest dx σ.news⟩) : Tr c d σ (setAttr (.ref x) name v) PU := by
  intro s Q E H r
  obtain ⟨g, G⟩ := H.split hd
  have hx' : (x, instObj C dx) ∈ (dx, dictOf es n) :: rest dx σ.news := .tail _ (mem_rest hx hne)
  refine set_dict G.fr G.x G.nw (InstAt.of_news G.nw hx' (.head _)) rfl S.fs S.po S.tk S.hh hl rfl (Upd.head rest_ne) (Nat.le_trans putL_len (Nat.le_trans (Nat.succ_le_succ hz) (by decide))) fun h' F' N' => ?_
  exact r () _ h' _ (k _ _) (G.to F' N')
end
section
variable {c : FnS} {d : Dy} {σ : St} {P : Flow → St → Prop} {PV : Value → St → Prop} {rest : List Stmt} {e o ie : PySem.Expr} {pos p2 : Pos} {x : Addr} {v : Value} {name : Str} {ad : Addr} {its : Array Value} {n : Nat}
theorem Ex.attr {R : Value → Prop} (he : EP c d σ e R) (ho : EP c d σ o (fun u => u = .ref x)) (k : ∀ v, R v → Tr c d σ (setAttr (.ref x) name v) (fun _ σ' => Tr c d σ' (execs rest (env c d)) P))
    (hs : autoParam (swapsWith e (some (.Attribute o name p2)) pos.line (env c d) = Pure.pure false) tacR) : Tr c d σ (execs (.Assign [.Attribute o name p2] e pos :: rest) (env c d)) P := by
  refine Ex.cons ?_
  intro s Q E H r
  refine plainObj_wpAny_Assign_Attribute (he s _ E H ?_) hs
  rintro v σ' h' tk' ⟨hv, rfl⟩ H'
  refine ho { s with heap := h', toks := tk' } _ E H' ?_
  rintro _ σ' h2 tk2 ⟨rfl, rfl⟩ H2
  refine k v hv { s with heap := h2, toks := tk2 } _ E H2 ?_
  intro _ σ3 h3 tk3 p3 H3
  exact r .next σ3 h3 tk3 p3 H3
/-- xs[i] = e -/
theorem Ex.setItem {R : Value → Prop} {k : Int} {q : List Value → Value → List Value} (he : EP c d σ e R) (ho : EP c d σ o (fun u => u = .ref ad)) (hi : EP c d σ ie (IsI k)) (h0 : 0 ≤ k) (h1 : k < 2 ^ 63) (hm : (ad, listOf its n) ∈ σ.news)
    (hq : ∀ v, R v → ki_setL its.toList k.toNat v = some (q its.toList v)) (kk : ∀ v, R v → Tr c d ⟨σ.m, (ad, listOf (q its.toList v).toArray n) :: Mine.rest ad σ.news⟩ (execs rest (env c d)) P)
    (hs : autoParam (swapsWith e (some (.Subscript o ie p2)) pos.line (env c d) = Pure.pure false) tacR) : Tr c d σ (execs (.Assign [.Subscript o ie p2] e pos :: rest) (env c d)) P := by
  refine Ex.cons ?_
  intro s Q E H r
  refine wpAny_Assign_Subscript (he s _ E H ?_) hs
  rintro v σ' h' tk' ⟨hv, rfl⟩ H'
  refine ho { s with heap := h', toks := tk' } _ E H' ?_
  rintro _ σ' h2 tk2 ⟨rfl, rfl⟩ H2
  refine hi { s with heap := h2, toks := tk2 } _ E H2 ?_
  rintro _ σ' h3 tk3 ⟨⟨t, rfl⟩, rfl⟩ H3
  obtain ⟨g, G⟩ := H3.split hm
  exact ki_set G.fr G.nw h0 h1 (hq v hv) (Upd.head rest_ne) fun h4 F4 N4 => r .next _ h4 tk3 (kk v hv) (G.to F4 N4)
/-- o.pop(0) of a list -/
theorem Tr.pop0 {y : Value} {q : List Value} {u : Tok} (hm : (ad, listOf (List.toArray (y :: q)) n) ∈ σ.news) (hl : q.length ≤ 900) (k : PV y ⟨σ.m, (ad, listOf q.toArray (n + 1)) :: Mine.rest ad σ.news⟩) : Tr c d σ (PySem.call (.builtin "list.pop") [.ref ad, .int 0 u]) PV := by
  intro s Q E H r
  obtain ⟨g, G⟩ := H.split hm
  refine kl_popAt (p := []) (q := q) (y := y) (k := 0) G.fr G.nw rfl (by simp [seqIndex?]) rfl (Upd.head rest_ne) (len_fits (show (y :: q).length ≤ 1000 from Nat.le_trans (Nat.succ_le_succ hl) (by decide))) fun h' F' N' => ?_
  exact r y _ h' s.toks k (G.to F' N')
end
end Mine

namespace Mine
open PySem PySem.W PySem.Spec PySem.Calls PyProof.Rows
theorem fill__j_C8 : (PySem.Challenge.rw_nt0638_01, KK) = (PySem.Challenge.rw_nt0638_01, KK) := by k_fill; rfl
theorem g_len (w : World) : nsIn (KK w.params) mainGlobals (Str.ofString "len") = some none := by k_is
section
variable {c : FnS} {d : Dy} {σ : St} {e ie o l r : PySem.Expr} {pos p2 ap : Pos} {v : Value} {ad : Addr} {its : Array Value} {n : Nat} {k : Int} {PV P₁ : Value → St → Prop} {op : Operator}
theorem EP.subL (he : EP c d σ e (fun u => u = .ref ad)) (hm : (ad, listOf its n) ∈ σ.news) (hi : EP c d σ ie (IsI k)) (h0 : 0 ≤ k) (h1 : k < 2 ^ 63) (hx : its[k.toNat]? = some v)
    (hs : ∀ o i, subscripted ie false o i = operate [o, i] (getItem o i) := by exact fun _ _ => rfl) : EP c d σ (.Subscript e ie pos) (fun u => u = v) := by
  refine Tr.sub he ?_
  rintro _ σ' ⟨rfl, rfl⟩
  refine Tr.mono hi ?_
  rintro _ σ' ⟨⟨t, rfl⟩, rfl⟩
  exact Tr.itemL hm h0 h1 hx ⟨rfl, rfl⟩ (hs _ _)
theorem EP.subT {tl : List Value} {j : Nat} (he : EP c d σ e (fun u => u = .ref ad)) (hm : (ad, tupOf tl.toArray n) ∈ σ.news) (hi : EP c d σ ie (IsI k)) (h0 : 0 ≤ k) (h1 : k < 2 ^ 63) (hj : seqIndex? k tl.length = some j) (hx : tl[j]? = some v)
    (hs : ∀ o i, subscripted ie false o i = operate [o, i] (getItem o i) := by exact fun _ _ => rfl) : EP c d σ (.Subscript e ie pos) (fun u => u = v) := by
  refine Tr.sub he ?_
  rintro _ σ' ⟨rfl, rfl⟩
  refine Tr.mono hi ?_
  rintro _ σ' ⟨⟨t, rfl⟩, rfl⟩
  exact Tr.itemT hm h0 h1 hj hx ⟨rfl, rfl⟩ (hs _ _)
theorem EP.len (he : EP c d σ e (fun u => u = .ref ad)) (hm : (ad, listOf its n) ∈ σ.news) (hz : its.size ≤ 1000) (hs : autoParam (starEach [e] (env c d) = [(false, eval e (env c d))]) tacR) (hx : autoParam ((env c d).kindOf (Str.ofString "len") = some .globalImplicit) tacR) :
    EP c d σ (.Call (.Name (Str.ofString "len") p2) [e] [] pos) (IsI (its.size : Int)) := by
  refine EP.callB (EP.built (g_len _) boot_len (by decide) hx rfl) (Args.v he (Args.nil ?_) hs) hs (by rw [hs]; rfl) rfl
  intro s Q E H k
  obtain ⟨g, G⟩ := id H
  exact call_len_list (News.isList G.nw hm) (Int.lt_of_le_of_lt (Int.ofNat_le.mpr hz) (by decide)) (k _ σ s.heap _ ⟨⟨_, rfl⟩, rfl⟩ H)
theorem Tr.bin (hl : Tr c d σ (eval l (env c d)) P₁) (hr : ∀ v σ', P₁ v σ' → Tr c d σ' (eval r (env c d)) (fun u σ2 => Tr c d σ2 (binaryOp op v u) PV)) : Tr c d σ (eval (.BinOp l op r pos) (env c d)) PV := by
  intro s Q E H k
  refine wpAny_BinOp (hl s _ E H fun v σ' h' tk' hp H' => ?_)
  exact hr v σ' hp { s with heap := h', toks := tk' } _ E H' fun u σ2 h2 tk2 h3 H2 => h3 { s with heap := h2, toks := tk2 } Q E H2 k
theorem Tr.opd {Ra Rb R : Value → Prop} {x y : Value} (ho : OpOk op Ra Rb R) (hx : Ra x) (hy : Rb y) (k : ∀ v, R v → PV v σ) : Tr c d σ (binaryOp op x y) PV :=
  fun s Q E H r => ho d.w _ s Q E x y hx hy fun v tk hv => r v σ s.heap tk (k v hv) H
/-- o.pop(0) -/
theorem Tr.pop {y : Value} {q : List Value} (ho : EP c d σ o (fun u => u = .ref ad)) (hi : EP c d σ ie (IsI 0)) (hm : (ad, listOf (List.toArray (y :: q)) n) ∈ σ.news) (hl : q.length ≤ 900) (k : PV y ⟨σ.m, (ad, listOf q.toArray (n + 1)) :: Mine.rest ad σ.news⟩)
    (hs : autoParam (starEach [ie] (env c d) = [(false, eval ie (env c d))]) tacR)
    (hc : ∃ pl : Sem Bool, eval (.Call (.Attribute o (Str.ofString "pop") ap) [ie] [] pos) (env c d) = (do
      let ov ← eval o (env c d)
      standAt ap.atName
      let (f, first) ← holding [ov] (getMethod ov (Str.ofString "pop") pl)
      callWith pos f first (backTo pos (starEach [ie] (env c d))) []) := by exact ⟨_, rfl⟩) : Tr c d σ (eval (.Call (.Attribute o (Str.ofString "pop") ap) [ie] [] pos) (env c d)) PV := by
  obtain ⟨pl, hc⟩ := hc
  intro s Q E H r
  refine MethodCall_ (pl := pl) (ho s _ E H ?_) hc
  rintro _ σ' h' tk' ⟨rfl, rfl⟩ H'
  obtain ⟨g, G⟩ := id H'
  refine kl_method G.nw hm PySem.F.slot_list_pop PySem.F.type_list_pop ?_
  refine callWith_method1 ?_ hs
  refine Args.i (P := fun vs σ2 => σ = σ2 ∧ ∃ t, vs = [.int 0 t]) hi (fun t => Args.nil ⟨rfl, t, rfl⟩) hs { s with heap := h', toks := tk' } _ _ H' ?_
  rintro _ σ' h2 tk2 ⟨rfl, t, rfl⟩ H2
  exact Tr.pop0 hm hl k { s with heap := h2, toks := tk2 } Q E H2 r
end
end Mine

namespace Mine
open PySem PySem.W PySem.Spec PySem.Calls PyProof.Rows

theorem fill__j_D1 : (PySem.Challenge.rw_nt0638_01, KK) = (PySem.Challenge.rw_nt0638_01, KK) := by k_fill; rfl
/-- two to the width and its half -/
structure Wd (wd f h : Int) : Prop where
  lo : 4 ≤ wd
  hi : wd ≤ 30
  ef : (2 : Int) ^ wd.toNat = f
  eh : (2 : Int) ^ (wd - 1).toNat = h
  two : f = 2 * h
  h8 : 8 ≤ h
  h29 : h ≤ 536870912
theorem wd_all : ∀ k : Fin 27, (2 : Int) ^ ((4 : Int) + (k : Nat)).toNat = 2 * 2 ^ ((4 : Int) + (k : Nat) - 1).toNat ∧ 8 ≤ (2 : Int) ^ ((4 : Int) + (k : Nat) - 1).toNat ∧ (2 : Int) ^ ((4 : Int) + (k : Nat) - 1).toNat ≤ 536870912 := by decide +kernel
theorem Wd.of {w : Int} (h0 : 4 ≤ w) (h1 : w ≤ 30) : Wd w (2 ^ w.toNat) (2 ^ (w - 1).toNat) := by
  have p := Int.sub_nonneg_of_le h0
  obtain ⟨a, b, c⟩ := wd_all ⟨(w - 4).toNat, (Int.toNat_lt p).mpr (Int.lt_of_le_of_lt (Int.sub_le_sub_right h1 4) (by decide))⟩
  have e : (4 : Int) + ((w - 4).toNat : Int) = w := by rw [Int.toNat_of_nonneg p, Int.add_comm, Int.sub_add_cancel]
  dsimp only at a b c
  rw [e] at a b c
  exact ⟨h0, h1, rfl, rfl, a, b, c⟩
section
variable {wd f h : Int}
theorem Wd.hp (W : Wd wd f h) : 0 < h := Int.lt_of_lt_of_le (by decide) W.h8
theorem Wd.fp (W : Wd wd f h) : 0 < f := by rw [W.two]; exact Int.mul_pos (by decide) W.hp
theorem Wd.f0 (W : Wd wd f h) : f ≠ 0 := Int.ne_of_gt W.fp
theorem Wd.f30 (W : Wd wd f h) : f ≤ 1073741824 := by rw [W.two]; exact (Int.mul_le_mul_of_nonneg_left W.h29 (by decide) : 2 * h ≤ 2 * 536870912)
theorem Wd.s0 (W : Wd wd f h) : 0 ≤ wd ∧ wd ≤ 1000 := ⟨Int.le_trans (by decide) W.lo, Int.le_trans W.hi (by decide)⟩
theorem Wd.s1 (W : Wd wd f h) : 0 ≤ wd - 1 ∧ wd - 1 ≤ 1000 := ⟨Int.sub_nonneg_of_le (Int.le_trans (by decide) W.lo), Int.le_trans (Int.sub_le_self _ (by decide)) W.s0.2⟩
theorem Wd.sm (W : Wd wd f h) {i : Int} (q : -h ≤ i ∧ i < h) : -1073741824 < i ∧ i < 1073741824 := ⟨Int.lt_of_lt_of_le (by decide : (-1073741824 : Int) < -536870912) (Int.le_trans (Int.neg_le_neg W.h29) q.1), Int.lt_of_lt_of_le q.2 (Int.le_trans W.h29 (by decide))⟩
end
theorem Wd.lo0 {wd f h i : Int} (W : Wd wd f h) (q : 0 ≤ i) : -h ≤ i := Int.le_trans (Int.neg_nonpos_of_nonneg (Int.le_of_lt W.hp)) q
theorem abs_pos {b : Int} (h : b ≠ 0) : (0 : Int) < b.natAbs := Int.natCast_pos.mpr (Int.natAbs_pos.mpr h)
theorem abs_sm {b k : Int} (h : -k < b ∧ b < k) : (b.natAbs : Int) < k := by
  rcases Int.natAbs_eq b with e | e
  · rw [← e]; exact h.2
  · rw [← Int.neg_eq_comm.mp e.symm]; exact Int.neg_lt_of_neg_lt h.1
theorem toNat_split {b : Int} (hb : 0 ≤ b) (c : Nat) : b.toNat = c * (b / c).toNat + (b % c).toNat := by
  obtain ⟨m, rfl⟩ := Int.eq_ofNat_of_zero_le hb
  exact (Nat.div_add_mod m c).symm
theorem toNat_div_lt {b : Int} (hb : 0 < b) {c : Nat} (hc : 1 < c) : (b / c).toNat < b.toNat := by
  obtain ⟨m, rfl⟩ := Int.eq_ofNat_of_zero_le (Int.le_of_lt hb)
  exact Nat.div_lt_self (Int.natCast_pos.mp hb) hc
/-- n within the width's full, from its half on below nought -/
noncomputable def wrapF (n f h : Int) : Int := if h ≤ n % f then n % f - f else n % f
theorem band_mask (n : Int) (k : Nat) : Builtin.bitAnd n (1 * 2 ^ k - 1) = n % 2 ^ k := by
  have e : (2 : Int) ^ k = ((2 ^ k : Nat) : Int) := (Int.natCast_pow 2 k).symm
  have hp : 0 < 2 ^ k := Nat.two_pow_pos k
  have e1 : (1 * 2 ^ k - 1 : Int) = ((2 ^ k - 1 : Nat) : Int) := by rw [Int.one_mul, e]; exact (Int.ofNat_sub hp).symm
  rw [e1, e]
  have h0 : (0 : Int) ≤ ((2 ^ k - 1 : Nat) : Int) := Int.natCast_nonneg _
  cases n with
  | ofNat m =>
    rw [bitAnd_pp (x := Int.ofNat m) (Int.natCast_nonneg m) h0]
    exact congrArg Int.ofNat (Nat.and_two_pow_sub_one_eq_mod m k)
  | negSucc m =>
    rw [bitAnd_np (Int.not_le.mpr (Int.negSucc_lt_zero m)) h0]
    have q : (Builtin.bitNot (Int.negSucc m)).toNat = m := by unfold Builtin.bitNot; rw [Int.negSucc_eq]; simp
    rw [q, Int.toNat_natCast, Nat.and_comm, Nat.and_two_pow_sub_one_eq_mod, Int.negSucc_emod m (Int.natCast_pos.mpr hp), Int.natCast_emod, Int.ofNat_sub hp]
    rfl
theorem wrapF_in {n wd f h : Int} (W : Wd wd f h) : -h ≤ wrapF n f h ∧ wrapF n f h < h := by
  have a := Int.emod_nonneg n W.f0
  have b := Int.emod_lt_of_pos n W.fp
  unfold wrapF
  by_cases q : h ≤ n % f
  · rw [if_pos q]
    refine ⟨Int.le_sub_right_of_add_le ?_, Int.lt_trans (Int.sub_neg_of_lt b) W.hp⟩
    rw [W.two, Int.two_mul, Int.neg_add_cancel_left, ← Int.two_mul, ← W.two]
    exact q
  · rw [if_neg q]
    exact ⟨Int.le_trans (Int.neg_nonpos_of_nonneg (Int.le_of_lt W.hp)) a, Int.not_le.mp q⟩
theorem wrapF_bd {n wd f h : Int} (W : Wd wd f h) : -1073741824 < wrapF n f h ∧ wrapF n f h < 1073741824 := W.sm (wrapF_in W)
theorem emod_mul_congr {a a' b b' p : Int} (h : a % p = a' % p) (h' : b % p = b' % p) : (a * b) % p = (a' * b') % p := by rw [Int.mul_emod, h, h', ← Int.mul_emod]
theorem emod_pow_congr {a a' p : Int} (h : a % p = a' % p) (n : Nat) : a ^ n % p = a' ^ n % p := by
  induction n with
  | zero => rw [Int.pow_zero, Int.pow_zero]
  | succ n ih => rw [Int.pow_succ, Int.pow_succ]; exact emod_mul_congr ih h
theorem wrapF_emod (n f h : Int) : wrapF n f h % f = n % f := by
  unfold wrapF
  split
  · rw [Int.sub_emod, Int.emod_self, Int.sub_zero, Int.emod_emod, Int.emod_emod]
  · rw [Int.emod_emod]
theorem wrapF_congr {a b f h : Int} (e : a % f = b % f) : wrapF a f h = wrapF b f h := by unfold wrapF; rw [e]
theorem sq_eq (x : Int) : x ^ 2 = x * x := by rw [Int.pow_succ, Int.pow_succ, Int.pow_zero, Int.one_mul]
theorem pow_odd {x bs b f h : Int} (hb : 0 < b) (ho : b % 2 = 1) : (wrapF (x * bs) f h * wrapF (bs * bs) f h ^ (b / 2).toNat) % f = (x * bs ^ b.toNat) % f := by
  have e : b.toNat = 2 * (b / 2).toNat + 1 := (toNat_split (Int.le_of_lt hb) 2).trans (by rw [show b % ((2 : Nat) : Int) = 1 from ho]; rfl)
  rw [e, Int.pow_succ, Int.pow_mul, Int.mul_comm (_ ^ _) bs, ← Int.mul_assoc, sq_eq]
  exact emod_mul_congr (wrapF_emod _ _ _) (emod_pow_congr (wrapF_emod _ _ _) _)
theorem pow_even {x bs b f h : Int} (hb : 0 < b) (ho : ¬ b % 2 = 1) : (x * wrapF (bs * bs) f h ^ (b / 2).toNat) % f = (x * bs ^ b.toNat) % f := by
  have e : b.toNat = 2 * (b / 2).toNat := (toNat_split (Int.le_of_lt hb) 2).trans (by rw [show b % ((2 : Nat) : Int) = 0 from (Int.emod_two_eq b).resolve_right ho]; rfl)
  rw [e, Int.pow_mul, sq_eq]
  exact emod_mul_congr rfl (emod_pow_congr (wrapF_emod _ _ _) _)

noncomputable abbrev GI (i : Int) (news : Led) : Value → Led → Prop := fun v n' => IsI i v ∧ news = n'
theorem gi_back {i : Int} {σ : St} {v : Value} {σ' : St} (h : IsI i v ∧ σ = σ') : Back (GI i σ.news) (.ret v) σ' := ⟨h.1, congrArg St.news h.2⟩

theorem g_wrap (w : World) : nsIn (KK w.params) mainGlobals (Str.ofString "wrap") = some (some (.ref 160)) := by k_is
theorem k_wrap (w : World) : keepIn (KK w.params) (.ref 160) = true := by k_is
theorem wrap_c (w : World) {n wd f h : Int} {t t' : Tok} {news : Led} (W : Wd wd f h) : Con w 160 1 [.int n t, .int wd t'] news (GI (wrapF n f h) news) := by
  (refine' con_intro (binds := [(Str.ofString "n", .int n t), (Str.ofString "width", .int wd t')]) ?ho ?hcd ?hb ?hl ?c1 ?c2 ?c3 ?c4 ?_; (case ho => k_is); (case hcd => k_is); (case hb => exact fun s _ => BindsTo.of_eq rfl); (case hl => exact locs rfl); (case c1 => exact rfl); (case c2 => exact rfl); (case c3 => exact rfl); (case c4 => decide)); rintro d rfl hrm
  have s0 := W.s0
  have s1 := W.s1
  obtain ⟨-, -, rfl, rfl, -, -, -⟩ := W
  refine Ex.assignI (EP.bin EP.nameI (EP.bin (EP.bin EP.int EP.nameI (op_shl s0)) EP.int op_sub) op_and) (fun tk => ?_)
  refine Ex.if_ (TT.cmp EP.nameI (EP.bin EP.int (EP.bin EP.nameI EP.int op_sub) (op_shl s1)) cmp_ge) (fun h => ?_) (fun h => ?_)
  · refine Ex.ret (Tr.mono (EP.bin EP.nameI (EP.bin EP.int EP.nameI (op_shl s0)) op_sub) fun v σ' q => gi_back ⟨?_, q.2⟩)
    rw [band_mask, Int.one_mul] at *
    unfold wrapF
    rw [if_pos h]
    exact q.1
  · refine Ex.ret (Tr.mono EP.nameI fun v σ' q => gi_back ⟨?_, q.2⟩)
    rw [band_mask, Int.one_mul] at *
    unfold wrapF
    rw [if_neg h]
    exact q.1

noncomputable def divF (a b : Int) : Int := if (a < 0 ↔ b < 0) then (a.natAbs : Int) / b.natAbs else -((a.natAbs : Int) / b.natAbs)
theorem divide_c (w : World) {x b : Int} {t t' : Tok} {news : Led} (h0 : b ≠ 0) (hb : -1073741824 < b ∧ b < 1073741824) : Con w 167 1 [.int x t, .int b t'] news (GI (divF x b) news) := by
  (refine' con_intro (binds := [(Str.ofString "a", .int x t), (Str.ofString "b", .int b t')]) ?ho ?hcd ?hb ?hl ?c1 ?c2 ?c3 ?c4 ?_; (case ho => k_is); (case hcd => k_is); (case hb => exact fun s _ => BindsTo.of_eq rfl); (case hl => exact locs rfl); (case c1 => exact rfl); (case c2 => exact rfl); (case c3 => exact rfl); (case c4 => decide)); rintro d rfl hrm
  refine Ex.assignI (EP.bin (EP.abs EP.nameI) (EP.abs EP.nameI) (op_div (abs_pos h0) (abs_sm hb))) (fun tk => ?_)
  refine Ex.ret (Tr.mono (EP.ifexp (TT.cmp (EP.cmp EP.nameI EP.int cmp_lt) (EP.cmp EP.nameI EP.int cmp_lt) cmp_neP) (fun h => ?_) (fun h => ?_)) fun v σ' q => gi_back q)
  · unfold divF
    rw [if_neg h]
    exact EP.neg EP.nameI
  · unfold divF
    rw [if_pos (Decidable.not_not.mp h)]
    exact EP.nameI

/-- between the turns of power: b, found, base -/
structure PowI (news : Led) (wv : Value) (f r : Int) (z : Int × Int × Int) (σ : St) : Prop where
  hn : σ.news = news
  hw : σ.m (Str.ofString "width") = some wv
  hb : ∃ t, σ.m (Str.ofString "b") = some (.int z.1 t)
  hf : ∃ t, σ.m (Str.ofString "found") = some (.int z.2.1 t)
  hs : ∃ t, σ.m (Str.ofString "base") = some (.int z.2.2 t)
  h0 : 0 ≤ z.1
  bf : -1073741824 < z.2.1 ∧ z.2.1 < 1073741824
  bs : -1073741824 < z.2.2 ∧ z.2.2 < 1073741824
  hc : (z.2.1 * z.2.2 ^ z.1.toNat) % f = r
theorem PowI.elim {news : Led} {wv : Value} {f r : Int} {z : Int × Int × Int} {σ : St} {G : Prop} (I : PowI news wv f r z σ) (k : ∀ tb tf ts, σ.m (Str.ofString "b") = some (.int z.1 tb) → σ.m (Str.ofString "found") = some (.int z.2.1 tf) → σ.m (Str.ofString "base") = some (.int z.2.2 ts) → G) : G :=
  I.hb.elim fun tb eb => I.hf.elim fun tf ef => I.hs.elim fun ts es => k tb tf ts eb ef es
/-- wrap(e, width) in any def -/
theorem EP.wrap {c : FnS} {d : Dy} {σ : St} {pos p1 p2 : Pos} {e : PySem.Expr} {n wd f h : Int} {t : Tok} (W : Wd wd f h) (hr : 1 ≤ d.room) (he : EP c d σ e (IsI n)) (hw : σ.m (Str.ofString "width") = some (.int wd t))
    (hs : autoParam (starEach [e, .Name (Str.ofString "width") p2] (env c d) = (false, eval e (env c d)) :: starEach [.Name (Str.ofString "width") p2] (env c d)) tacR) (hx : autoParam ((env c d).kindOf (Str.ofString "wrap") = some .globalImplicit) tacR) (hy : autoParam ((env c d).kindOf (Str.ofString "width") = some .local) tacR) :
    EP c d σ (.Call (.Name (Str.ofString "wrap") p1) [e, .Name (Str.ofString "width") p2] [] pos) (IsI (wrapF n f h)) := by
  refine EP.callG (EP.glob (g_wrap _) hx rfl) (k_wrap _) (Args.cons he ?_ hs) hs rfl rfl
  rintro v σ' ⟨⟨t1, rfl⟩, rfl⟩
  refine Args.cons (EP.nameI hw hy rfl) ?_ rfl
  rintro v σ' ⟨⟨t2, rfl⟩, rfl⟩
  refine Args.nil (Tr.mono (Tr.call (wrap_c d.w W) hr) ?_)
  rintro v ⟨m', n'⟩ ⟨⟨hv, rfl⟩, rfl⟩
  exact ⟨hv, rfl⟩
end Mine

namespace Mine
open PySem PySem.W PySem.Spec PySem.Calls PyProof.Rows
theorem fill__j_D2 : (PySem.Challenge.rw_nt0638_01, KK) = (PySem.Challenge.rw_nt0638_01, KK) := by k_fill; rfl
theorem power_c (w : World) {x b wd f h : Int} {t t' t2 : Tok} {news : Led} (W : Wd wd f h) (hb : 0 ≤ b) (hx : -1073741824 < x ∧ x < 1073741824) : Con w 174 2 [.int x t, .int b t', .int wd t2] news (GI (wrapF (x ^ b.toNat) f h) news) := by
  (refine' con_intro (binds := [(Str.ofString "a", .int x t), (Str.ofString "b", .int b t'), (Str.ofString "width", .int wd t2)]) ?ho ?hcd ?hb ?hl ?c1 ?c2 ?c3 ?c4 ?_; (case ho => k_is); (case hcd => k_is); (case hb => exact fun s _ => BindsTo.of_eq rfl); (case hl => exact locs rfl); (case c1 => exact rfl); (case c2 => exact rfl); (case c3 => exact rfl); (case c4 => decide)); rintro d rfl hrm
  refine Ex.if_ (TT.cmp EP.nameI EP.int cmp_lt) (fun q => absurd q (Int.not_lt.mpr hb)) (fun q => ?_)
  refine Ex.tup2 (by decide) (Args.i EP.int fun t1 => Args.v EP.name (Args.nil ⟨_, _, rfl, ?_⟩))
  refine Ex.while (fun z : Int × Int × Int => z.1.toNat) (PowI news (.int wd t2) f (x ^ b.toNat % f)) (fun z => 0 < z.1) (b, 1, x) ?_ ?_ ?_ ?_
  · exact ⟨rfl, rfl, ⟨_, rfl⟩, ⟨_, rfl⟩, ⟨_, rfl⟩, hb, ⟨show (-1073741824 : Int) < 1 by decide, show (1 : Int) < 1073741824 by decide⟩, hx, by rw [Int.one_mul]⟩
  · exact fun z σ' I => I.elim fun tb tf ts eb ef es => TT.cmp (EP.nameI eb) EP.int cmp_gt
  · refine fun z σ' I hlt => I.elim fun tb tf ts eb ef es => ?_
    have q2 := @wrapF_bd (z.2.2 * z.2.2) wd f h W
    refine Ex.if_ (TT.cmp (EP.bin (EP.nameI eb) EP.int (op_mod (by decide))) EP.int cmp_eq) (fun ho => ?_) (fun ho => ?_)
    · refine Ex.assignI (EP.wrap W (rm hrm rfl) (EP.bin (EP.nameI ef) (EP.nameI es) (op_mul I.bs)) I.hw) fun t3 => Ex.nil ?_
      refine Ex.assignI (EP.wrap W (rm hrm rfl) (EP.bin (EP.nameI es) (EP.nameI es) (op_mul I.bs)) I.hw) fun t4 => ?_
      refine Ex.assignI (EP.bin (EP.nameI eb) EP.int (op_div (by decide) (by decide))) fun t5 => Ex.nil ?_
      exact ⟨(z.1 / 2, wrapF (z.2.1 * z.2.2) f h, wrapF (z.2.2 * z.2.2) f h), toNat_div_lt (c := 2) hlt (by decide), I.hn, I.hw, ⟨_, rfl⟩, ⟨_, rfl⟩, ⟨_, rfl⟩, Int.ediv_nonneg I.h0 (by decide), wrapF_bd W, q2, (pow_odd hlt ho).trans I.hc⟩
    · refine Ex.assignI (EP.wrap W (rm hrm rfl) (EP.bin (EP.nameI es) (EP.nameI es) (op_mul I.bs)) I.hw) fun t4 => ?_
      refine Ex.assignI (EP.bin (EP.nameI eb) EP.int (op_div (by decide) (by decide))) fun t5 => Ex.nil ?_
      exact ⟨(z.1 / 2, z.2.1, wrapF (z.2.2 * z.2.2) f h), toNat_div_lt (c := 2) hlt (by decide), I.hn, I.hw, ⟨_, rfl⟩, ⟨_, ef⟩, ⟨_, rfl⟩, Int.ediv_nonneg I.h0 (by decide), I.bf, q2, (pow_even hlt ho).trans I.hc⟩
  · refine fun z σ' I hlt => I.elim fun tb tf ts eb ef es => ?_
    have e : z.1 = 0 := Int.le_antisymm (Int.not_lt.mp hlt) I.h0
    have hc := I.hc
    rw [e, show ((0 : Int).toNat) = 0 from rfl, Int.pow_zero, Int.mul_one] at hc
    exact Ex.ret (Tr.mono (EP.wrap W (rm hrm rfl) (EP.nameI ef) I.hw) fun v σ2 q => ⟨wrapF_congr hc ▸ q.1, I.hn.symm.trans (congrArg St.news q.2)⟩)
end Mine

namespace Mine
open PySem PySem.W PySem.Spec PySem.Calls PyProof.Rows
theorem fill__j_D3 : (PySem.Challenge.rw_nt0638_01, KK) = (PySem.Challenge.rw_nt0638_01, KK) := by k_fill; rfl
theorem wrapF_law {n wd f h : Int} (W : Wd wd f h) : (n + h) % f - h = wrapF n f h := by
  have a := Int.emod_nonneg n W.f0
  have b := Int.emod_lt_of_pos n W.fp
  have t : f = h + h := W.two.trans (Int.two_mul h)
  have e : (n + h) % f = (n % f + h) % f := by rw [Int.emod_add_emod]
  unfold wrapF
  rw [e]
  by_cases q : h ≤ n % f
  · have e2 : n % f + h = (n % f - h) + f := by rw [t, ← Int.add_assoc, Int.sub_add_cancel]
    rw [if_pos q, e2, Int.add_emod_right, Int.emod_eq_of_lt (Int.sub_nonneg_of_le q) (Int.lt_of_le_of_lt (Int.sub_le_self _ (Int.le_of_lt W.hp)) b), Int.sub_sub, ← t]
  · have e3 : n % f + h < f := Int.lt_of_lt_of_le (Int.add_lt_add_right (Int.not_le.mp q) h) (Int.le_of_eq t.symm)
    rw [if_neg q, Int.emod_eq_of_lt (Int.add_nonneg a (Int.le_of_lt W.hp)) e3, Int.add_sub_cancel]
theorem lwrap_c (w : World) {n wd f h : Int} {t t' : Tok} {news : Led} (W : Wd wd f h) : Con w 231 1 [.int n t, .int wd t'] news (GI (wrapF n f h) news) := by
  (refine' con_intro (binds := [(Str.ofString "number", .int n t), (Str.ofString "width", .int wd t')]) ?ho ?hcd ?hb ?hl ?c1 ?c2 ?c3 ?c4 ?_; (case ho => k_is); (case hcd => k_is); (case hb => exact fun s _ => BindsTo.of_eq rfl); (case hl => exact locs rfl); (case c1 => exact rfl); (case c2 => exact rfl); (case c3 => exact rfl); (case c4 => decide)); rintro d rfl hrm
  have hl := wrapF_law (n := n) W
  have s0 := W.s0
  have s1 := W.s1
  have fp := W.fp
  obtain ⟨h0, h1, rfl, rfl, two, h8, h29⟩ := W
  refine Ex.tup2 (by decide) (Args.i (EP.bin EP.int EP.nameI (op_shl s0)) fun t1 => Args.i (EP.bin EP.int (EP.bin EP.nameI EP.int op_sub) (op_shl s1)) fun t2 => Args.nil ⟨_, _, rfl, ?_⟩)
  rw [Int.one_mul, Int.one_mul]
  refine Ex.ret (Tr.mono (EP.bin (EP.bin (EP.bin EP.nameI EP.nameI op_add) EP.nameI (op_mod fp)) EP.nameI op_sub) fun v σ' q => gi_back ⟨hl ▸ q.1, q.2⟩)
/-- between the turns of _law_power: many, found, base -/
structure LpI (news : Led) (f r : Int) (z : Int × Int × Int) (σ : St) : Prop where
  hn : σ.news = news
  hf : ∃ t, σ.m (Str.ofString "full") = some (.int f t)
  hm : ∃ t, σ.m (Str.ofString "many") = some (.int z.1 t)
  hy : ∃ t, σ.m (Str.ofString "found") = some (.int z.2.1 t)
  hb : ∃ t, σ.m (Str.ofString "base") = some (.int z.2.2 t)
  h0 : 0 ≤ z.1
  bs : -1073741824 < z.2.2 ∧ z.2.2 < 1073741824
  hc : (z.2.1 * z.2.2 ^ z.1.toNat) % f = r
theorem LpI.elim {news : Led} {f r : Int} {z : Int × Int × Int} {σ : St} {G : Prop} (I : LpI news f r z σ) (k : ∀ tf tk ty tz, σ.m (Str.ofString "full") = some (.int f tf) → σ.m (Str.ofString "many") = some (.int z.1 tk) → σ.m (Str.ofString "found") = some (.int z.2.1 ty) → σ.m (Str.ofString "base") = some (.int z.2.2 tz) → G) : G :=
  I.hf.elim fun tf ef => I.hm.elim fun tk ek => I.hy.elim fun ty ey => I.hb.elim fun tz ez => k tf tk ty tz ef ek ey ez
/-- between the turns of its inner loop -/
structure LqI (news : Led) (f k y z : Int) (i : Nat) (σ : St) : Prop where
  hn : σ.news = news
  hf : ∃ t, σ.m (Str.ofString "full") = some (.int f t)
  hm : ∃ t, σ.m (Str.ofString "many") = some (.int k t)
  hy : ∃ y' t, σ.m (Str.ofString "found") = some (.int y' t) ∧ y' % f = (y * z ^ i) % f
  hb : ∃ t, σ.m (Str.ofString "base") = some (.int z t)
theorem LqI.elim {news : Led} {f k y z : Int} {i : Nat} {σ : St} {G : Prop} (I : LqI news f k y z i σ) (q : ∀ tf tk y' ty tz, σ.m (Str.ofString "full") = some (.int f tf) → σ.m (Str.ofString "many") = some (.int k tk) → σ.m (Str.ofString "found") = some (.int y' ty) → y' % f = (y * z ^ i) % f → σ.m (Str.ofString "base") = some (.int z tz) → G) : G :=
  I.hf.elim fun tf ef => I.hm.elim fun tk ek => I.hy.elim fun y' h => h.elim fun ty h => I.hb.elim fun tz ez => q tf tk y' ty tz ef ek h.1 h.2 ez
theorem pow3 {y z f k : Int} {y' : Int} (hk : 0 < k) (e : y' % f = (y * z ^ (k % 3).toNat) % f) : (y' * (z * z * z % f) ^ (k / 3).toNat) % f = (y * z ^ k.toNat) % f := by
  have e1 : k.toNat = (k % 3).toNat + 3 * (k / 3).toNat := (toNat_split (Int.le_of_lt hk) 3).trans (Nat.add_comm _ _)
  have e3 : z ^ 3 = z * z * z := by rw [Int.pow_succ, sq_eq]
  rw [e1, Int.pow_add, Int.pow_mul, e3, ← Int.mul_assoc]
  exact emod_mul_congr e (emod_pow_congr (Int.emod_emod _ _) _)
theorem lpower_c (w : World) {x b wd f h : Int} {t t' t2 : Tok} {news : Led} (W : Wd wd f h) (hb : 0 ≤ b) (hx : -1073741824 < x ∧ x < 1073741824) : Con w 238 1 [.int x t, .int b t', .int f t2] news (fun v n' => ∃ y, IsI y v ∧ y % f = x ^ b.toNat % f ∧ news = n') := by
  (refine' con_intro (binds := [(Str.ofString "base", .int x t), (Str.ofString "many", .int b t'), (Str.ofString "full", .int f t2)]) ?ho ?hcd ?hb ?hl ?c1 ?c2 ?c3 ?c4 ?_; (case ho => k_is); (case hcd => k_is); (case hb => exact fun s _ => BindsTo.of_eq rfl); (case hl => exact locs rfl); (case c1 => exact rfl); (case c2 => exact rfl); (case c3 => exact rfl); (case c4 => decide)); rintro d rfl hrm
  have hf : 0 < f ∧ f ≤ 1073741824 := ⟨W.fp, W.f30⟩
  refine Ex.assignI EP.int fun t3 => ?_
  refine Ex.while (fun z : Int × Int × Int => z.1.toNat) (LpI news f (x ^ b.toNat % f)) (fun z => 0 < z.1) (b, 1, x) ?_ ?_ ?_ ?_
  · exact ⟨rfl, ⟨_, rfl⟩, ⟨_, rfl⟩, ⟨_, rfl⟩, ⟨_, rfl⟩, hb, hx, by rw [Int.one_mul]⟩
  · exact fun z σ' I => I.elim fun tf tk ty tz ef ek ey ez => TT.cmp (EP.nameI ek) EP.int cmp_gt
  · refine fun z σ' I hlt => I.elim fun tf tk ty tz ef ek ey ez => ?_
    have I0 := I.h0
    have hc := I.hc
    have bs := I.bs
    have hn := I.hn
    clear I
    obtain ⟨k, y, z⟩ := z
    dsimp only at *
    refine Ex.forRange (n := (k % 3).toNat) (EP.mono (EP.bin (EP.nameI ek) EP.int (op_mod (by decide))) fun v q => by rw [Int.toNat_of_nonneg (Int.emod_nonneg k (by decide))]; exact q) (Nat.le_trans (Int.toNat_le_toNat (Int.le_of_lt (Int.emod_lt_of_pos k (by decide)))) (by decide : (3 : Int).toNat ≤ 15))
      (LqI news f k y z) ⟨hn, ⟨_, ef⟩, ⟨_, ek⟩, ⟨_, _, ey, by rw [Int.pow_zero, Int.mul_one]⟩, ⟨_, ez⟩⟩ (fun I _ i t4 m nx hi q hne => q.elim fun tf tk y' ty tz ef ek ey hy ez => ?_) (fun m nx q => q.elim fun tf tk y' ty tz ef ek ey hy ez => ?_)
    · refine Ex.assignI (EP.bin (EP.bin (EP.nameI ey) (EP.nameI ez) (op_mul bs)) (EP.nameI ef) (op_mod hf.1)) fun t5 => Ex.nil ⟨rfl, nx, fun _ h => h, hne, q.hn, ⟨_, ef⟩, ⟨_, ek⟩, ⟨_, _, rfl, ?_⟩, ⟨_, ez⟩⟩
      rw [Int.emod_emod, Int.pow_succ, ← Int.mul_assoc]
      exact emod_mul_congr hy rfl
    · refine Ex.tup2 (by decide) (Args.i (EP.bin (EP.bin (EP.bin (EP.nameI ez) (EP.nameI ez) (op_mul bs)) (EP.nameI ez) (op_mul bs)) (EP.nameI ef) (op_mod hf.1)) fun t5 => Args.i (EP.bin (EP.nameI ek) EP.int (op_div (by decide) (by decide))) fun t6 => Args.nil ⟨_, _, rfl, Ex.nil ?_⟩)
      have hz := Int.emod_nonneg (z * z * z) W.f0
      have hz2 := Int.emod_lt_of_pos (z * z * z) hf.1
      exact ⟨(k / 3, y', z * z * z % f), toNat_div_lt (c := 3) hlt (by decide), q.hn, ⟨_, ef⟩, ⟨_, rfl⟩, ⟨_, ey⟩, ⟨_, rfl⟩, Int.ediv_nonneg I0 (by decide), ⟨Int.lt_of_lt_of_le (by decide) hz, Int.lt_of_lt_of_le hz2 hf.2⟩, (pow3 hlt hy).trans hc⟩
  · refine fun z σ' I hlt => I.elim fun tf tk ty tz ef ek ey ez => ?_
    have e : z.1 = 0 := Int.le_antisymm (Int.not_lt.mp hlt) I.h0
    have hc := I.hc
    rw [e, show ((0 : Int).toNat) = 0 from rfl, Int.pow_zero, Int.mul_one] at hc
    exact Ex.ret (Tr.mono (EP.nameI ey) fun v σ2 q => ⟨z.2.1, q.1, hc, I.hn.symm.trans (congrArg St.news q.2)⟩)
end Mine

namespace Mine
open PySem PySem.W PySem.Spec PySem.Calls PyProof.Rows
theorem fill__j_D4 : (PySem.Challenge.rw_nt0638_01, KK) = (PySem.Challenge.rw_nt0638_01, KK) := by k_fill; rfl
/-- the law's box: a list of the drawn ints, and the seed -/
structure BoxIn (b l : Addr) (news : Led) : Prop where
  ne : b ≠ l
  bx : ∃ s t n, (b, listOf #[.ref l, .int s t] n) ∈ news ∧ 0 ≤ s ∧ s < 1000003
  ls : ∃ vs n, (l, listOf (List.toArray vs) n) ∈ news ∧ vs.length ≤ 100 ∧ ∀ v ∈ vs, ∃ i, IsI i v
noncomputable def Keep (as : List Addr) (news news' : Led) : Prop := ∀ p ∈ news, p.1 ∉ as → p ∈ news'
theorem keep_put {a : Addr} {o : Obj} {as : List Addr} {news : Led} (h : a ∈ as) : Keep as news ((a, o) :: rest a news) := fun _ hp hn => .tail _ (mem_rest hp fun e => hn (e ▸ h))
theorem Keep.refl {as : List Addr} {news : Led} : Keep as news news := fun _ h _ => h
theorem Keep.trans {as : List Addr} {n1 n2 n3 : Led} (h : Keep as n1 n2) (h' : Keep as n2 n3) : Keep as n1 n3 := fun p hp hn => h' p (h p hp hn) hn
noncomputable def Drawn (b l : Addr) (many : Int) (news : Led) (v : Value) (n' : Led) : Prop := (∃ i, IsI i v ∧ 0 ≤ i ∧ i < many) ∧ BoxIn b l n' ∧ Keep [b, l] news n'
theorem BoxIn.elim {b l : Addr} {news : Led} {G : Prop} (B : BoxIn b l news) (k : ∀ s ts nb vs nl, b ≠ l → (b, listOf #[.ref l, .int s ts] nb) ∈ news → 0 ≤ s → s < 1000003 → (l, listOf (List.toArray vs) nl) ∈ news → vs.length ≤ 100 → (∀ v ∈ vs, ∃ i, IsI i v) → G) : G := by
  obtain ⟨ne, ⟨s, ts, nb, hb, s0, s1⟩, ⟨vs, nl, hl, hz, hi⟩⟩ := B
  exact k s ts nb vs nl ne hb s0 s1 hl hz hi
theorem take_c (w : World) {b l : Addr} {many : Int} {t : Tok} {news : Led} (B : BoxIn b l news) (hm : 0 < many) : Con w 217 1 [.ref b, .int many t] news (Drawn b l many news) := by
  (refine' con_intro (binds := [(Str.ofString "box", .ref b), (Str.ofString "many", .int many t)]) ?ho ?hcd ?hb ?hl ?c1 ?c2 ?c3 ?c4 ?_; (case ho => k_is); (case hcd => k_is); (case hb => exact fun s _ => BindsTo.of_eq rfl); (case hl => exact locs rfl); (case c1 => exact rfl); (case c2 => exact rfl); (case c3 => exact rfl); (case c4 => decide)); rintro d rfl hrm
  refine B.elim fun s ts nb vs nl ne hb s0 s1 hl hz hi => ?_
  refine Ex.if_ (TT.cmp (EP.len (EP.subL EP.name hb EP.int (by decide) (by decide) rfl) hl (by rw [List.size_toArray]; exact Nat.le_trans hz (by decide))) EP.int cmp_gt) (fun hp => ?_) (fun hp => ?_)
  · cases vs with
    | nil => simp at hp
    | cons y q =>
      obtain ⟨i, t1, rfl⟩ := hi y (.head _)
      refine Ex.ret (Tr.bin (P₁ := fun v σ' => v = .int i t1 ∧ σ' = ⟨_, (l, listOf q.toArray (nl + 1)) :: rest l news⟩) (Tr.pop (EP.subL EP.name hb EP.int (by decide) (by decide) rfl) EP.int hl (Nat.le_trans (Nat.le_of_succ_le hz) (by decide)) ⟨rfl, rfl⟩) ?_)
      rintro _ _ ⟨rfl, rfl⟩
      refine Tr.mono EP.nameI ?_
      rintro u _ ⟨hu, rfl⟩
      refine Tr.opd (op_mod hm) ⟨t1, rfl⟩ hu fun v hv => ?_
      exact ⟨⟨_, hv, Int.emod_nonneg _ (Int.ne_of_gt hm), Int.emod_lt_of_pos _ hm⟩, ⟨ne, ⟨s, ts, nb, .tail _ (mem_rest hb ne), s0, s1⟩, ⟨q, _, .head _, Nat.le_of_succ_le hz, fun v hv => hi v (.tail _ hv)⟩⟩, keep_put (.tail _ (.head _))⟩
  · have hx := Int.emod_nonneg (s * 4099 + 12301) (show (1000003 : Int) ≠ 0 by decide)
    have hy := Int.emod_lt_of_pos (s * 4099 + 12301) (show (0 : Int) < 1000003 by decide)
    refine Ex.setItem (k := 1) (q := fun _ v => [.ref l, v]) (EP.bin (EP.bin (EP.bin (EP.mono (EP.subL EP.name hb EP.int (by decide) (by decide) rfl) fun v (q : v = .int s ts) => (⟨ts, q⟩ : IsI s v)) EP.int (op_mul (by decide))) EP.int op_add) EP.int (op_mod (by decide))) EP.name EP.int (by decide) (by decide) hb (fun v _ => rfl) ?_
    rintro _ ⟨t1, rfl⟩
    refine Ex.ret (Tr.mono (EP.bin (EP.bin (EP.mono (EP.subL EP.name (.head _) EP.int (by decide) (by decide) rfl) fun v (q : v = .int _ t1) => (⟨t1, q⟩ : IsI _ v)) EP.int (op_div (by decide) (by decide))) EP.nameI (op_mod hm)) ?_)
    rintro v _ ⟨hv, rfl⟩
    exact ⟨⟨_, hv, Int.emod_nonneg _ (Int.ne_of_gt hm), Int.emod_lt_of_pos _ hm⟩, ⟨ne, ⟨_, _, _, .head _, hx, hy⟩, ⟨vs, nl, .tail _ (mem_rest hl (Ne.symm ne)), hz, hi⟩⟩, keep_put (.head _)⟩
end Mine

namespace Mine
open PySem PySem.W PySem.Spec PySem.Calls PyProof.Rows
theorem fill__j_D5 : (PySem.Challenge.rw_nt0638_01, KK) = (PySem.Challenge.rw_nt0638_01, KK) := by k_fill; rfl
theorem Tr.ifexp {c : FnS} {d : Dy} {σ : St} {t l r : PySem.Expr} {pos : Pos} {p : Prop} {PV : Value → St → Prop} (ht : TT c d σ t p) (h1 : p → Tr c d σ (eval l (env c d)) PV) (h2 : ¬ p → Tr c d σ (eval r (env c d)) PV) : Tr c d σ (eval (.IfExp t l r pos) (env c d)) PV := by
  intro s Q E H k
  refine wpAny_IfExp (ht s _ E H ?_)
  rintro b σ' h' tk' ⟨hb, rfl⟩ H'
  cases b with
  | true => exact h1 (hb.mp rfl) _ _ _ H' k
  | false => exact h2 (fun x => nomatch hb.mpr x) _ _ _ H' k
theorem Ex.assignK {c : FnS} {d : Dy} {σ : St} {e : PySem.Expr} {rest : List Stmt} {P : Flow → St → Prop} {x : Str} {px pos : Pos} {P₁ : Value → Led → Prop} (he : Tr c d σ (eval e (env c d)) (fun v σ' => ∃ n', σ' = ⟨σ.m, n'⟩ ∧ P₁ v n')) (k : ∀ v n', P₁ v n' → Tr c d ⟨upd σ.m x v, n'⟩ (execs rest (env c d)) P)
    (hx : autoParam ((env c d).kindOf x = some .local) tacR) (hs : autoParam (swapsWith e (some (.Name x px)) pos.line (env c d) = Pure.pure false) tacR) : Tr c d σ (execs (.Assign [.Name x px] e pos :: rest) (env c d)) P :=
  Ex.assign he (by rintro v σ' ⟨n', rfl, h⟩; exact k v n' h) hx hs
inductive Tre where
  | num (i : Int)
  | un (t : Tre)
  | bin (op : Int) (l r : Tre)
noncomputable def Tre.Ok (h : Int) : Tre → Prop
  | .num i => -h ≤ i ∧ i < h
  | .un t => t.Ok h
  | .bin op l r => (12 ≤ op ∧ op ≤ 17) ∧ l.Ok h ∧ r.Ok h
noncomputable def Tre.depth : Tre → Nat
  | .num _ => 0
  | .un t => t.depth + 1
  | .bin _ l r => max l.depth r.depth + 1
inductive TreeIn (b l : Addr) (news : Led) : Value → Tre → Prop where
  | num {v : Value} {i : Int} : IsI i v → TreeIn b l news v (.num i)
  | un {a : Addr} {t : Tok} {v : Value} {T : Tre} : (a, tupOf (List.toArray [.int 18 t, v]) 0) ∈ news → a ≠ b → a ≠ l → TreeIn b l news v T → TreeIn b l news (.ref a) (.un T)
  | bin {a : Addr} {op : Int} {t : Tok} {v u : Value} {T U : Tre} : (a, tupOf (List.toArray [.int op t, v, u]) 0) ∈ news → a ≠ b → a ≠ l → TreeIn b l news v T → TreeIn b l news u U → TreeIn b l news (.ref a) (.bin op T U)
theorem TreeIn.keep {b l : Addr} {news news' : Led} {v : Value} {T : Tre} (h : TreeIn b l news v T) (k : Keep [b, l] news news') : TreeIn b l news' v T := by
  induction h with
  | num h => exact .num h
  | un hm h1 h2 _ ih => exact .un (k _ hm (by simp [h1, h2])) h1 h2 ih
  | bin hm h1 h2 _ _ ih ih' => exact .bin (k _ hm (by simp [h1, h2])) h1 h2 ih ih'
theorem BoxIn.lt {b l a : Addr} {news : Led} (B : BoxIn b l news) (h : ∀ p ∈ news, p.1 < a) : a ≠ b ∧ a ≠ l := by
  obtain ⟨_, ⟨_, _, _, hb, _⟩, ⟨_, _, hl, _⟩⟩ := B
  exact ⟨Nat.ne_of_gt (h _ hb), Nat.ne_of_gt (h _ hl)⟩
theorem BoxIn.cons {b l : Addr} {news : Led} {p : Addr × Obj} (B : BoxIn b l news) : BoxIn b l (p :: news) := by
  obtain ⟨ne, ⟨s, t, n, hb, hs⟩, ⟨vs, m, hl, hr⟩⟩ := B
  exact ⟨ne, ⟨s, t, n, .tail _ hb, hs⟩, ⟨vs, m, .tail _ hl, hr⟩⟩
theorem Keep.cons {as : List Addr} {news news' : Led} {p : Addr × Obj} (k : Keep as news news') : Keep as news (p :: news') := fun q hq hn => .tail _ (k q hq hn)
theorem g_take (w : World) : nsIn (KK w.params) mainGlobals (Str.ofString "_law_take") = some (some (.ref 217)) := by k_is
theorem k_take (w : World) : keepIn (KK w.params) (.ref 217) = true := by k_is
theorem g_tree (w : World) : nsIn (KK w.params) mainGlobals (Str.ofString "_law_tree") = some (some (.ref 224)) := by k_is
theorem k_tree (w : World) : keepIn (KK w.params) (.ref 224) = true := by k_is
section
variable {c : FnS} {d : Dy} {σ : St} {e : PySem.Expr} {pos p1 p2 p3 p4 : Pos} {b l : Addr} {many : Int} {PV : Value → St → Prop}
/-- _law_take(box, e) -/
theorem EP.take (hr : 1 ≤ d.room) (hb : σ.m (Str.ofString "box") = some (.ref b)) (B : BoxIn b l σ.news) (he : EP c d σ e (IsI many)) (hm : 0 < many) (k : ∀ i v n', IsI i v → 0 ≤ i → i < many → BoxIn b l n' → Keep [b, l] σ.news n' → PV v ⟨σ.m, n'⟩)
    (hs : autoParam (starEach [.Name (Str.ofString "box") p2, e] (env c d) = [(false, eval (.Name (Str.ofString "box") p2) (env c d)), (false, eval e (env c d))]) tacR) (hx : autoParam ((env c d).kindOf (Str.ofString "_law_take") = some .globalImplicit) tacR) (hy : autoParam ((env c d).kindOf (Str.ofString "box") = some .local) tacR) :
    Tr c d σ (eval (.Call (.Name (Str.ofString "_law_take") p1) [.Name (Str.ofString "box") p2, e] [] pos) (env c d)) PV := by
  have hs1 : starEach [e] (env c d) = [(false, eval e (env c d))] := by
    have := congrArg List.tail hs
    exact this
  refine EP.callG (EP.glob (g_take _) hx rfl) (k_take _) (Args.v (EP.name hb hy rfl) (Args.i he (fun t => Args.nil (Tr.mono (Tr.call (take_c d.w B hm) hr) ?_)) hs1) (by rw [hs, hs1])) (by rw [hs, hs1]) (by rw [hs1]; rfl) rfl
  rintro v ⟨m, n'⟩ ⟨⟨⟨i, hv, h0, h1⟩, hB, hK⟩, rfl⟩
  exact k i v n' hv h0 h1 hB hK
end
/-- what _law_tree draws -/
noncomputable def Tree (b l : Addr) (h : Int) (n : Nat) (news : Led) (v : Value) (n' : Led) : Prop := ∃ T : Tre, TreeIn b l n' v T ∧ T.Ok h ∧ T.depth ≤ n ∧ BoxIn b l n' ∧ Keep [b, l] news n'
/-- _law_tree(box, deep - 1, width), from the contract of the lower depth -/
theorem EP.tree {c : FnS} {d : Dy} {σ : St} {pos p1 p2 p3 p4 p5 p6 : Pos} {kn : Nat} {b l : Addr} {wd h : Int} {t t' : Tok} {n : Nat} {PV : Value → St → Prop}
    (ih : ∀ (t t' : Tok) (news : Led), BoxIn b l news → Con d.w 224 (n + 2) [.ref b, .int n t, .int wd t'] news (Tree b l h n news)) (hr : n + 2 ≤ d.room) (hb : σ.m (Str.ofString "box") = some (.ref b)) (hd : σ.m (Str.ofString "deep") = some (.int ((n + 1 : Nat) : Int) t)) (hw : σ.m (Str.ofString "width") = some (.int wd t')) (B : BoxIn b l σ.news)
    (k : ∀ v n', Tree b l h n σ.news v n' → PV v ⟨σ.m, n'⟩)
    (hx : autoParam ((env c d).kindOf (Str.ofString "_law_tree") = some .globalImplicit) tacR) (hy : autoParam ((env c d).kindOf (Str.ofString "box") = some .local) tacR) (hz : autoParam ((env c d).kindOf (Str.ofString "deep") = some .local) tacR) (hv : autoParam ((env c d).kindOf (Str.ofString "width") = some .local) tacR) :
    Tr c d σ (eval (.Call (.Name (Str.ofString "_law_tree") p1) [.Name (Str.ofString "box") p2, .BinOp (.Name (Str.ofString "deep") p3) .Sub (.Constant (.int 1) kn p5) p4, .Name (Str.ofString "width") p6] [] pos) (env c d)) PV := by
  refine EP.callG (EP.glob (g_tree _) hx rfl) (k_tree _) (Args.v (EP.name hb hy rfl) (Args.i (i := (n : Int)) (EP.mono (EP.bin (EP.nameI hd hz rfl) EP.int op_sub) fun v q => by rw [show (((n + 1 : Nat) : Int) - 1) = (n : Int) from Int.add_sub_cancel (n : Int) 1] at q; exact q) fun t1 => Args.v (EP.name hw hv rfl) (Args.nil (Tr.mono (Tr.call (ih _ _ _ B) hr) ?_))))
  rintro v ⟨m, n'⟩ ⟨hT, rfl⟩
  exact k v n' hT
theorem tree_c (w : World) {b l : Addr} {wd f h : Int} (W : Wd wd f h) : ∀ (n : Nat) (t t' : Tok) (news : Led), BoxIn b l news → Con w 224 (n + 2) [.ref b, .int n t, .int wd t'] news (Tree b l h n news) := by
  intro n
  induction n using Nat.strongRecOn with
  | ind n ih =>
    intro t t' news B
    (refine' con_intro (binds := [(Str.ofString "box", .ref b), (Str.ofString "deep", .int (n : Int) t), (Str.ofString "width", .int wd t')]) ?ho ?hcd ?hb ?hl ?c1 ?c2 ?c3 ?c4 ?_; (case ho => k_is); (case hcd => k_is); (case hb => exact fun s _ => BindsTo.of_eq rfl); (case hl => exact locs rfl); (case c1 => exact rfl); (case c2 => exact rfl); (case c3 => exact rfl); (case c4 => decide)); rintro d rfl hrm
    have r1 : 1 ≤ d.room := hrm ▸ Nat.le_add_left 1 n
    refine Ex.assignK (P₁ := fun v n' => ∃ i, IsI i v ∧ 0 ≤ i ∧ (i < 7 → 0 < n) ∧ BoxIn b l n' ∧ Keep [b, l] news n')
      (Tr.ifexp (TT.cmp EP.nameI EP.int cmp_gt) (fun hp => EP.take r1 rfl B EP.int (by decide) fun i v n' hv h0 h1 hB hK => ⟨n', rfl, i, hv, h0, fun _ => Int.natCast_pos.mp hp, hB, hK⟩) (fun _ => Tr.mono EP.int (by rintro v _ ⟨hv, rfl⟩; exact ⟨news, rfl, 8, hv, by decide, fun z => absurd z (by decide), B, Keep.refl⟩))) ?_
    rintro _ n1 ⟨i, ⟨t1, rfl⟩, h0, hn, B1, K1⟩
    refine Ex.if_ (TT.cmp EP.nameI EP.int cmp_lt) (fun hp => ?_) (fun hp => ?_)
    · obtain ⟨k, rfl⟩ : ∃ k, n = k + 1 := ⟨_, (Nat.succ_pred_eq_of_pos (hn (Int.lt_trans hp (by decide)))).symm⟩
      refine Ex.assignK (P₁ := Tree b l h k n1) (EP.tree (ih k (Nat.lt_succ_self k)) (Nat.le_of_eq hrm.symm) rfl rfl rfl B1 fun v n' hT => ⟨n', rfl, hT⟩) ?_
      rintro v1 n2 ⟨T1, hT1, ok1, dp1, B2, K2⟩
      refine Ex.ret (EP.tuple (Args.i (EP.bin EP.int EP.nameI op_add) fun t3 => Args.v EP.name (Args.cons (P₁ := fun v σ' => Tree b l h k n2 v σ'.news) (EP.tree (ih k (Nat.lt_succ_self k)) (Nat.le_of_eq hrm.symm) rfl rfl rfl B2 fun v n' hT => hT) ?_ rfl)))
      rintro v2 ⟨m, n3⟩ ⟨T2, hT2, ok2, dp2, B3, K3⟩
      refine Args.nil ⟨(by decide : 3 ≤ 1000), fun a ha => ?_⟩
      have hne := B3.lt ha
      exact ⟨.bin (12 + i) T1 T2, .bin (.head _) hne.1 hne.2 ((hT1.keep K3).keep (Keep.cons Keep.refl)) (hT2.keep (Keep.cons Keep.refl)), ⟨⟨Int.le_add_of_nonneg_right h0, (Int.add_le_add_left (Int.le_of_lt_add_one (show i < 5 + 1 from hp)) 12 : 12 + i ≤ 12 + 5)⟩, ok1, ok2⟩, Nat.succ_le_succ (Nat.max_le.mpr ⟨dp1, dp2⟩), B3.cons, (K1.trans (K2.trans K3)).cons⟩
    refine Ex.if_ (TT.cmp EP.nameI EP.int cmp_eq) (fun hp6 => ?_) (fun hp6 => ?_)
    · obtain ⟨k, rfl⟩ : ∃ k, n = k + 1 := ⟨_, (Nat.succ_pred_eq_of_pos (hn (by rw [hp6]; decide))).symm⟩
      refine Ex.ret (EP.tuple (Args.i EP.int fun t3 => Args.cons (P₁ := fun v σ' => Tree b l h k n1 v σ'.news) (EP.tree (ih k (Nat.lt_succ_self k)) (Nat.le_of_eq hrm.symm) rfl rfl rfl B1 fun v n' hT => hT) ?_ rfl))
      rintro v2 ⟨m, n3⟩ ⟨T2, hT2, ok2, dp2, B3, K3⟩
      refine Args.nil ⟨(by decide : 2 ≤ 1000), fun a ha => ?_⟩
      have hne := B3.lt ha
      exact ⟨.un T2, .un (.head _) hne.1 hne.2 (hT2.keep (Keep.cons Keep.refl)), ok2, Nat.succ_le_succ dp2, B3.cons, (K1.trans K3).cons⟩
    refine Ex.assignK (P₁ := fun v n' => ∃ i, IsI i v ∧ 0 ≤ i ∧ i < 8 ∧ BoxIn b l n' ∧ Keep [b, l] news n') (EP.take r1 rfl B1 EP.int (by decide) fun i v n' hv h0 h1 hB hK => ⟨n', rfl, i, hv, h0, h1, hB, K1.trans hK⟩) ?_
    rintro _ n2 ⟨j, ⟨t2, rfl⟩, j0, j1, B2, K2⟩
    refine Ex.assignI (EP.bin EP.int (EP.bin EP.nameI EP.int op_sub) (op_shl W.s1)) fun t3 => ?_
    have eh : 1 * (2 : Int) ^ (wd - 1).toNat = h := by rw [Int.one_mul]; exact W.eh
    rw [eh]
    refine Ex.if_ (TT.cmp EP.nameI EP.int cmp_lt) (fun hp => ?_) (fun hp => ?_)
    · refine Ex.ret (Tr.ifexp (TT.cmp EP.nameI EP.int cmp_lt) (fun hq => ?_) (fun hq => ?_))
      · exact EP.take r1 rfl B2 EP.int (by decide) fun i v n' hv h0 h1 hB hK => ⟨.num i, .num hv, ⟨W.lo0 h0, Int.lt_of_lt_of_le h1 W.h8⟩, Nat.zero_le _, hB, K2.trans hK⟩
      · exact EP.take r1 rfl B2 EP.nameI W.hp fun i v n' hv h0 h1 hB hK => ⟨.num i, .num hv, ⟨W.lo0 h0, h1⟩, Nat.zero_le _, hB, K2.trans hK⟩
    · refine Ex.ret (Tr.ifexp (TT.cmp EP.nameI EP.int cmp_eq) (fun hq => ?_) (fun hq => ?_))
      · exact Tr.mono (EP.bin EP.nameI EP.int op_sub) (by rintro v _ ⟨hv, rfl⟩; exact ⟨.num _, .num hv, ⟨W.lo0 (Int.sub_nonneg_of_le W.hp), Int.sub_lt_self _ (by decide)⟩, Nat.zero_le _, B2, K2⟩)
      · exact Tr.mono (EP.bin EP.int EP.nameI op_sub) (by rintro v _ ⟨hv, rfl⟩; exact ⟨.num _, .num hv, ⟨Int.le_of_eq (Int.zero_sub h).symm, by rw [Int.zero_sub]; exact Int.lt_trans (Int.neg_neg_of_pos W.hp) W.hp⟩, Nat.zero_le _, B2, K2⟩)
end Mine

namespace Mine
open PySem PySem.W PySem.Spec PySem.Calls PyProof.Rows
theorem fill__j_D6 : (PySem.Challenge.rw_nt0638_01, KK) = (PySem.Challenge.rw_nt0638_01, KK) := by k_fill; rfl
noncomputable def powF (a b f h : Int) : Option Int := if 0 ≤ b then some (wrapF (a ^ b.toNat) f h) else if a = 0 then none else if a = 1 then some 1 else if a = -1 then some (if b % 2 = 0 then 1 else -1) else some 0
/-- what the operator op makes of a and b -/
noncomputable def arF (op a b f h : Int) : Option Int :=
  if op = 12 then some (wrapF (a + b) f h)
  else if op = 13 then some (wrapF (a - b) f h)
  else if op = 14 then some (wrapF (a * b) f h)
  else if op = 18 then some (wrapF (-a) f h)
  else if op = 17 then powF a b f h
  else if b = 0 then none
  else if op = 15 then some (wrapF (divF a b) f h)
  else some (wrapF (a.fmod b) f h)
noncomputable def OI (o : Option Int) (v : Value) : Prop := match o with | some i => IsI i v | none => v = .none
noncomputable abbrev GO (o : Option Int) (news : Led) : Value → Led → Prop := fun v n' => OI o v ∧ news = n'
noncomputable def InO (h : Int) (o : Option Int) : Prop := ∀ i, o = some i → -h ≤ i ∧ i < h
theorem InO.ite {h : Int} {p : Prop} [Decidable p] {a b : Option Int} (h1 : InO h a) (h2 : ¬ p → InO h b) : InO h (if p then a else b) := by
  split
  · exact h1
  · exact h2 ‹_›
theorem InO.some {h j : Int} (q : -h ≤ j ∧ j < h) : InO h (some j) := fun _ e => Option.some.inj e ▸ q
theorem InO.none {h : Int} : InO h none := fun _ e => (nomatch e)
theorem small_in {h j : Int} (h8 : 8 ≤ h) (q : -8 ≤ j ∧ j < 8) : -h ≤ j ∧ j < h := ⟨Int.le_trans (Int.neg_le_neg h8) q.1, Int.lt_of_lt_of_le q.2 h8⟩
theorem arF_in {op a b wd f h i : Int} (W : Wd wd f h) (e : arF op a b f h = some i) : -h ≤ i ∧ i < h := by
  have ww := fun n => InO.some (wrapF_in (n := n) W)
  have k := fun j q => InO.some (small_in (j := j) W.h8 q)
  refine (?_ : InO h (arF op a b f h)) i e
  unfold arF powF
  exact .ite (ww _) fun _ => .ite (ww _) fun _ => .ite (ww _) fun _ => .ite (ww _) fun _ => .ite (.ite (ww _) fun _ => .ite .none fun _ => .ite (k 1 (by decide)) fun _ => .ite (by split <;> exact k _ (by decide)) fun _ => k 0 (by decide)) fun _ => .ite .none fun _ => .ite (ww _) fun _ => ww _
theorem divF_tdiv (a b : Int) : divF a b = a.tdiv b := by
  have p : ∀ m : Nat, ¬ Int.ofNat m < 0 := fun m => Int.not_lt.mpr (Int.natCast_nonneg m)
  have n := Int.negSucc_lt_zero
  unfold divF
  cases a with
  | ofNat x => cases b with
    | ofNat y => rw [if_pos (iff_of_false (p x) (p y))]; rfl
    | negSucc y => rw [if_neg fun z => p x (z.mpr (n y))]; rfl
  | negSucc x => cases b with
    | ofNat y => rw [if_neg fun z => p y (z.mp (n x))]; rfl
    | negSucc y => rw [if_pos (iff_of_true (n x) (n y))]; rfl
theorem rest_fmod {a b : Int} (hb : b ≠ 0) : (a - divF a b * b ≠ 0 ∧ ¬ ((a - divF a b * b < 0) ↔ b < 0) → a - divF a b * b + b = a.fmod b) ∧ (¬ (a - divF a b * b ≠ 0 ∧ ¬ ((a - divF a b * b < 0) ↔ b < 0)) → a - divF a b * b = a.fmod b) := by
  rw [divF_tdiv, Int.mul_comm, ← Int.tmod_def, Int.fmod_eq_tmod]
  have sg := Int.sign_tmod a b
  have ng : 0 ≤ a → 0 ≤ a.tmod b := Int.tmod_nonneg b
  have dz := @Int.dvd_iff_tmod_eq_zero b a
  generalize a.tmod b = t at sg ng dz ⊢
  by_cases hd : b ∣ a
  · rw [if_pos hd, Int.add_zero]
    exact ⟨fun z => absurd (dz.mp hd) z.1, fun _ => rfl⟩
  rw [if_neg hd] at sg ⊢
  have t0 : t ≠ 0 := fun z => hd (dz.mpr z)
  by_cases ha : 0 ≤ a
  · have tp : ¬ t < 0 := Int.not_lt.mpr (ng ha)
    rw [if_pos ha]
    by_cases h2 : 0 ≤ b
    · rw [if_pos h2, Int.add_zero]
      exact ⟨fun z => absurd (iff_of_false tp (Int.not_lt.mpr h2)) z.2, fun _ => rfl⟩
    · rw [if_neg h2]
      exact ⟨fun _ => rfl, fun z => absurd ⟨t0, fun y => tp (y.mpr (Int.not_le.mp h2))⟩ z⟩
  · have tn : t < 0 := Int.sign_eq_neg_one_iff_neg.mp (sg.trans (Int.sign_eq_neg_one_iff_neg.mpr (Int.not_le.mp ha)))
    rw [if_neg ha]
    by_cases h2 : 0 ≤ b
    · rw [if_pos h2, Int.natAbs_of_nonneg h2]
      exact ⟨fun _ => rfl, fun z => absurd ⟨t0, fun y => absurd (y.mp tn) (Int.not_lt.mpr h2)⟩ z⟩
    · rw [if_neg h2, Int.toNat_of_nonpos (Int.le_of_lt (Int.not_le.mp h2))]
      exact ⟨fun z => absurd (iff_of_true tn (Int.not_le.mp h2)) z.2, fun _ => (Int.add_zero t).symm⟩
theorem op_fmod {a b : Int} (h : b ≠ 0) : OpOk .Mod (IsI a) (IsI b) (IsI (a.fmod b)) := by
  rintro w A s Q E _ _ ⟨t, rfl⟩ ⟨u, rfl⟩ k
  exact mod_int' h (k _ _ ⟨_, rfl⟩)
end Mine

namespace Mine
open PySem PySem.W PySem.Spec PySem.Calls PyProof.Rows
theorem fill__j_D7 : (PySem.Challenge.rw_nt0638_01, KK) = (PySem.Challenge.rw_nt0638_01, KK) := by k_fill; rfl
theorem g_lwrap (w : World) : nsIn (KK w.params) mainGlobals (Str.ofString "_law_wrapped") = some (some (.ref 231)) := by k_is
theorem k_lwrap (w : World) : keepIn (KK w.params) (.ref 231) = true := by k_is
theorem g_lpower (w : World) : nsIn (KK w.params) mainGlobals (Str.ofString "_law_power") = some (some (.ref 238)) := by k_is
theorem k_lpower (w : World) : keepIn (KK w.params) (.ref 238) = true := by k_is
theorem Ex.retB {c : FnS} {d : Dy} {σ : St} {e : PySem.Expr} {pos : Pos} {rest : List Stmt} {R : Value → Prop} {P : Flow → St → Prop} (he : EP c d σ e R) (hP : ∀ v, R v → P (.ret v) σ := by exact fun v q => ⟨q, rfl⟩) : Tr c d σ (execs (.Return (some e) pos :: rest) (env c d)) P :=
  Ex.ret (Tr.mono he fun v σ' q => q.2 ▸ hP v q.1)
/-- _law_wrapped(e, width) in any def -/
theorem EP.lwrap {c : FnS} {d : Dy} {σ : St} {pos p1 p2 : Pos} {e : PySem.Expr} {R : Value → Prop} {i wd f h : Int} {t : Tok} (W : Wd wd f h) (hr : 1 ≤ d.room) (he : EP c d σ e R) (hi : ∀ v, R v → ∃ n, IsI n v ∧ wrapF n f h = i) (hw : σ.m (Str.ofString "width") = some (.int wd t))
    (hs : autoParam (starEach [e, .Name (Str.ofString "width") p2] (env c d) = (false, eval e (env c d)) :: starEach [.Name (Str.ofString "width") p2] (env c d)) tacR) (hx : autoParam ((env c d).kindOf (Str.ofString "_law_wrapped") = some .globalImplicit) tacR) (hy : autoParam ((env c d).kindOf (Str.ofString "width") = some .local) tacR) :
    EP c d σ (.Call (.Name (Str.ofString "_law_wrapped") p1) [e, .Name (Str.ofString "width") p2] [] pos) (IsI i) := by
  refine EP.callG (EP.glob (g_lwrap _) hx rfl) (k_lwrap _) (Args.cons he ?_ hs) hs rfl rfl
  rintro v σ' ⟨hv, rfl⟩
  obtain ⟨n, ⟨t1, rfl⟩, rfl⟩ := hi v hv
  refine Args.cons (EP.nameI hw hy rfl) ?_ rfl
  rintro v σ' ⟨⟨t2, rfl⟩, rfl⟩
  refine Args.nil (Tr.mono (Tr.call (lwrap_c d.w W) hr) ?_)
  rintro v ⟨m', n'⟩ ⟨⟨hv, rfl⟩, rfl⟩
  exact ⟨hv, rfl⟩
theorem EP.shlw {c : FnS} {d : Dy} {σ : St} {pos p1 p2 : Pos} {k : Nat} {wd f h : Int} {t : Tok} (W : Wd wd f h) (hw : σ.m (Str.ofString "width") = some (.int wd t)) (hy : autoParam ((env c d).kindOf (Str.ofString "width") = some .local) tacR) : EP c d σ (.BinOp (.Constant (.int 1) k p1) .LShift (.Name (Str.ofString "width") p2) pos) (IsI f) := by
  have h := EP.bin (c := c) (d := d) (pos := pos) (EP.int (i := 1) (n := k) (pos := p1)) (EP.nameI (pos := p2) hw hy rfl) (op_shl W.s0)
  rw [Int.one_mul, W.ef] at h
  exact h
theorem op_low {op : Int} (h0 : 12 ≤ op) (h1 : op < 15) (h2 : op ≠ 12) (h3 : op ≠ 13) : op = 14 := Int.le_antisymm (Int.le_of_lt_add_one h1) (Int.add_one_le_of_lt (Int.lt_iff_le_and_ne.mpr ⟨Int.add_one_le_of_lt (Int.lt_iff_le_and_ne.mpr ⟨h0, Ne.symm h2⟩), Ne.symm h3⟩))
theorem ltwo_c (w : World) {op x b wd f h : Int} {t1 t2 t3 t4 : Tok} {news : Led} (W : Wd wd f h) (hop : 12 ≤ op ∧ op ≤ 17) (hx : -1073741824 < x ∧ x < 1073741824) (hb : -1073741824 < b ∧ b < 1073741824) : Con w 245 2 [.int op t1, .int x t2, .int b t3, .int wd t4] news (GO (arF op x b f h) news) := by
  (refine' con_intro (binds := [(Str.ofString "op", .int op t1), (Str.ofString "left", .int x t2), (Str.ofString "right", .int b t3), (Str.ofString "width", .int wd t4)]) ?ho ?hcd ?hb ?hl ?c1 ?c2 ?c3 ?c4 ?_; (case ho => k_is); (case hcd => k_is); (case hb => exact fun s _ => BindsTo.of_eq rfl); (case hl => exact locs rfl); (case c1 => exact rfl); (case c2 => exact rfl); (case c3 => exact rfl); (case c4 => decide)); rintro d rfl hrm
  unfold arF
  refine Ex.if_ (TT.cmp EP.nameI EP.int cmp_lt) (fun h1 => ?_) (fun h1 => ?_)
  · refine Ex.retB (EP.lwrap (R := IsI (if op = 12 then x + b else if op = 13 then x - b else x * b)) W (rm hrm rfl) (EP.pick (k := op - 12) (Args.p (EP.bin EP.nameI EP.nameI op_add) fun v1 q1 => Args.p (EP.bin EP.nameI EP.nameI op_sub) fun v2 q2 => Args.p (EP.bin EP.nameI EP.nameI (op_mul hb)) fun v3 q3 => Args.nil ⟨rfl, (by decide : 3 ≤ 1000), ?_⟩) (fun n => EP.bin EP.nameI EP.int op_sub) (Int.sub_nonneg_of_le hop.1) (Int.lt_of_le_of_lt (Int.sub_le_sub_right hop.2 12) (by decide))) (fun v q => ⟨_, q, rfl⟩) rfl) fun v q => ⟨?_, rfl⟩
    · by_cases e1 : op = 12
      · subst e1; exact ⟨v1, rfl, q1⟩
      by_cases e2 : op = 13
      · subst e2; exact ⟨v2, rfl, q2⟩
      obtain rfl : op = 14 := op_low hop.1 h1 e1 e2
      exact ⟨v3, rfl, q3⟩
    · by_cases e1 : op = 12
      · rw [if_pos e1] at *; exact q
      by_cases e2 : op = 13
      · rw [if_neg e1, if_pos e2] at *; exact q
      rw [if_neg e1, if_neg e2, if_pos (op_low hop.1 h1 e1 e2 : op = 14)] at *; exact q
  rw [if_neg (fun e => h1 (by rw [e]; decide) : ¬ op = 12), if_neg (fun e => h1 (by rw [e]; decide) : ¬ op = 13), if_neg (fun e => h1 (by rw [e]; decide) : ¬ op = 14), if_neg (fun e => absurd hop.2 (by rw [e]; decide) : ¬ op = 18)]
  refine Ex.if_ (TT.and2 (TT.cmp EP.nameI EP.int cmp_eq) fun _ => TT.cmp EP.nameI EP.int cmp_ge) (fun h2 => ?_) (fun h2 => ?_)
  · refine Ex.retB (EP.lwrap (i := wrapF (x ^ b.toNat) f h) (R := fun v => ∃ y, IsI y v ∧ y % f = x ^ b.toNat % f) W (rm hrm rfl) (EP.callG (EP.glob (g_lpower _)) (k_lpower _) (Args.i EP.nameI fun t5 => Args.i EP.nameI fun t6 => Args.i (EP.shlw W rfl) fun t7 => Args.nil (Tr.mono (Tr.call (lpower_c d.w W h2.2 hx) (rm hrm rfl)) ?_))) (fun v ⟨y, hy, e⟩ => ⟨y, hy, wrapF_congr e⟩) rfl) fun v q => ⟨?_, rfl⟩
    · rintro v ⟨m, n⟩ ⟨⟨y, hy, e, rfl⟩, rfl⟩; exact ⟨⟨y, hy, e⟩, rfl⟩
    · rw [if_pos h2.1]; unfold powF; rw [if_pos h2.2]; exact q
  refine Ex.if_ (TT.cmp EP.nameI EP.int cmp_eq) (fun h3 => ?_) (fun h3 => ?_)
  · have h4 : ¬ 0 ≤ b := fun z => h2 ⟨h3, z⟩
    rw [if_pos h3]; unfold powF; rw [if_neg h4]
    refine Ex.retB (R := OI _) (EP.ifexp (TT.cmp EP.nameI EP.int cmp_eq) (fun e => ?_) (fun e => EP.ifexp (TT.cmp EP.nameI EP.int cmp_eq) (fun e1 => ?_) (fun e1 => EP.ifexp (TT.cmp EP.nameI (EP.bin EP.int EP.int op_sub) cmp_eq) (fun e2 => EP.ifexp (TT.cmp (EP.bin EP.nameI EP.int (op_mod (by decide))) EP.int cmp_eq) (fun e3 => ?_) (fun e3 => ?_)) (fun e2 => ?_))))
    · rw [if_pos e]; exact EP.none
    · rw [if_neg e, if_pos e1]; exact EP.int
    · rw [if_neg e, if_neg e1, if_pos (show x = -1 from e2), if_pos e3]; exact EP.int
    · rw [if_neg e, if_neg e1, if_pos (show x = -1 from e2), if_neg e3]; exact EP.bin EP.int EP.int op_sub
    · rw [if_neg e, if_neg e1, if_neg (show ¬ x = -1 from e2)]; exact EP.int
  rw [if_neg h3]
  refine Ex.if_ (TT.cmp EP.nameI EP.int cmp_eq) (fun h4 => ?_) (fun h4 => ?_)
  · rw [if_pos h4]; exact Ex.retB EP.none
  rw [if_neg h4]
  refine Ex.assignI (EP.bin (EP.abs EP.nameI) (EP.abs EP.nameI) (op_div (abs_pos h4) (abs_sm hb))) (fun tk => ?_)
  refine Ex.assignI (i := divF x b) (EP.ifexp (TT.cmp (EP.cmp EP.nameI EP.int cmp_lt) (EP.cmp EP.nameI EP.int cmp_lt) cmp_eqP) (fun e => ?_) (fun e => ?_)) (fun tk => ?_)
  · unfold divF; rw [if_pos e]; exact EP.nameI
  · unfold divF; rw [if_neg e]; exact EP.mono (EP.bin EP.int EP.nameI op_sub) fun v q => by rw [Int.zero_sub] at q; exact q
  refine Ex.if_ (TT.cmp EP.nameI EP.int cmp_eq) (fun h5 => ?_) (fun h5 => ?_)
  · rw [if_pos h5]; exact Ex.retB (EP.lwrap W (rm hrm rfl) EP.nameI (fun v q => ⟨_, q, rfl⟩) rfl)
  rw [if_neg h5]
  refine Ex.assignI (EP.bin EP.nameI (EP.bin EP.nameI EP.nameI (op_mul hb)) op_sub) (fun tk => ?_)
  have hr := rest_fmod (a := x) h4
  generalize x - divF x b * b = r at hr ⊢
  refine Ex.retB (EP.lwrap W (rm hrm rfl) (EP.ifexp (TT.and2 (TT.cmp EP.nameI EP.int cmp_ne) fun _ => TT.cmp (EP.cmp EP.nameI EP.int cmp_lt) (EP.cmp EP.nameI EP.int cmp_lt) cmp_neP) (fun e => ?_) (fun e => ?_)) (fun v q => ⟨_, q, rfl⟩) rfl)
  · rw [← hr.1 e]; exact EP.bin EP.nameI EP.nameI op_add
  · rw [← hr.2 e]; exact EP.nameI
end Mine

namespace Mine
open PySem PySem.W PySem.Spec PySem.Calls PyProof.Rows
theorem fill__j_D8 : (PySem.Challenge.rw_nt0638_01, KK) = (PySem.Challenge.rw_nt0638_01, KK) := by k_fill; rfl
theorem g_ltwo (w : World) : nsIn (KK w.params) mainGlobals (Str.ofString "_law_two") = some (some (.ref 245)) := by k_is
theorem k_ltwo (w : World) : keepIn (KK w.params) (.ref 245) = true := by k_is
theorem g_due (w : World) : nsIn (KK w.params) mainGlobals (Str.ofString "_law_due") = some (some (.ref 252)) := by k_is
theorem k_due (w : World) : keepIn (KK w.params) (.ref 252) = true := by k_is
theorem g_isi (w : World) : nsIn (KK w.params) mainGlobals (Str.ofString "isinstance") = some none := by k_is
theorem g_int (w : World) : nsIn (KK w.params) mainGlobals (Str.ofString "int") = some none := by k_is
section
variable {c : FnS} {d : Dy} {σ : St} {e : PySem.Expr} {es : List PySem.Expr} {pos p1 p2 : Pos} {R : Value → Prop} {k : Nat} {fa : Addr} {fn : Str}
/-- a def that leaves the ledger as it is -/
theorem EP.callP (g : nsIn (KK d.w.params) mainGlobals fn = some (some (.ref fa))) (kf : keepIn (KK d.w.params) (.ref fa) = true) (hr : k ≤ d.room)
    (ha : Args c d σ pos (e :: es) (fun vs σ' => σ = σ' ∧ Con d.w fa k vs σ.news (fun v n' => R v ∧ σ.news = n'))) (hx : autoParam ((env c d).kindOf fn = some .globalImplicit) tacR) (hd : autoParam ((fn == ("__debug__" : Str)) = false) tacR)
    (hs : autoParam (starEach (e :: es) (env c d) = (false, eval e (env c d)) :: starEach es (env c d)) tacR) (hp : autoParam ((backTo pos (starEach es (env c d))).any (·.1) = false) tacR) : EP c d σ (.Call (.Name fn p1) (e :: es) [] pos) R := by
  refine EP.callG (EP.glob g hx hd) kf (Tr.mono ha ?_) hs hp rfl
  rintro vs σ' ⟨rfl, C⟩
  refine Tr.mono (Tr.call C hr) ?_
  rintro v ⟨m, n⟩ ⟨⟨hv, rfl⟩, rfl⟩
  exact ⟨hv, rfl⟩
/-- a def's contract, called -/
theorem EP.callC {PW : Value → Led → Prop} (g : nsIn (KK d.w.params) mainGlobals fn = some (some (.ref fa))) (kf : keepIn (KK d.w.params) (.ref fa) = true) (hr : k ≤ d.room)
    (ha : Args c d σ pos (e :: es) (fun vs σ' => σ = σ' ∧ Con d.w fa k vs σ.news PW)) (hx : autoParam ((env c d).kindOf fn = some .globalImplicit) tacR) (hd : autoParam ((fn == ("__debug__" : Str)) = false) tacR)
    (hs : autoParam (starEach (e :: es) (env c d) = (false, eval e (env c d)) :: starEach es (env c d)) tacR) (hp : autoParam ((backTo pos (starEach es (env c d))).any (·.1) = false) tacR) : Tr c d σ (eval (.Call (.Name fn p1) (e :: es) [] pos) (env c d)) (fun v σ' => ∃ n', σ' = ⟨σ.m, n'⟩ ∧ PW v n') := by
  refine EP.callG (EP.glob g hx hd) kf (Tr.mono ha ?_) hs hp rfl
  rintro vs σ' ⟨rfl, C⟩
  refine Tr.mono (Tr.call C hr) ?_
  rintro v ⟨m, n⟩ ⟨hv, rfl⟩
  exact ⟨n, rfl, hv⟩
/-- an argument that may turn the ledger -/
theorem Args.q {P : List Value → St → Prop} {PW : Value → Led → Prop} (he : Tr c d σ (eval e (env c d)) (fun v σ' => ∃ n', σ' = ⟨σ.m, n'⟩ ∧ PW v n')) (k : ∀ v n', PW v n' → Args c d ⟨σ.m, n'⟩ pos es (fun vs σ2 => P (v :: vs) σ2)) (hs : autoParam (starEach (e :: es) (env c d) = (false, eval e (env c d)) :: starEach es (env c d)) tacR) : Args c d σ pos (e :: es) P :=
  Args.cons he (by rintro v _ ⟨n, rfl, h⟩; exact k v n h) hs
/-- isinstance(e, T) for a built-in type T -/
theorem EP.isi {T : String} {x : Value} {bv : Bool} (he : EP c d σ e (fun v => v = x)) (g : nsIn (KK d.w.params) mainGlobals (Str.ofString T) = some Option.none) (hb : bootBuiltins (Str.ofString T) = some (.type T)) (hn : Str.ofString T ≠ "__name__")
    (h : ∀ (s : Shared) (Q : Value → Shared → Prop) (E : Value → Shared → Prop), Holds c d σ s.heap → (∀ tk, Q (.bool bv) { s with toks := tk }) → wpAny (model PySem.Challenge.rw_nt0638_01.row.prog d.w) (Ar c d) (call (.builtin "isinstance") [x, .type T]) Q E s)
    (hs : autoParam (starEach [e, .Name (Str.ofString T) p2] (env c d) = (false, eval e (env c d)) :: starEach [.Name (Str.ofString T) p2] (env c d)) tacR) (hs2 : autoParam (starEach [.Name (Str.ofString T) p2] (env c d) = [(false, eval (.Name (Str.ofString T) p2) (env c d))]) tacR) (hx : autoParam ((env c d).kindOf (Str.ofString "isinstance") = some .globalImplicit) tacR) (hy : autoParam ((env c d).kindOf (Str.ofString T) = some .globalImplicit) tacR) (hd : autoParam ((Str.ofString T == ("__debug__" : Str)) = false) tacR) :
    EP c d σ (.Call (.Name (Str.ofString "isinstance") p1) [e, .Name (Str.ofString T) p2] [] pos) (IsP (bv = true)) := by
  refine EP.callB (EP.built (g_isi _) boot_isinstance (by decide) hx rfl) (Args.v he (Args.v (EP.built g hb hn hy hd) (Args.nil ?_) hs2) hs) hs (by rw [hs, hs2]; rfl) rfl
  intro s Q E H r
  exact h s Q E H fun tk => r _ σ s.heap tk ⟨⟨bv, rfl, Iff.rfl⟩, rfl⟩ H
theorem EP.isInt {x : Value} {T : Tre} {b l : Addr} (hv : σ.m (Str.ofString "tree") = some x) (hT : TreeIn b l σ.news x T) (hx : autoParam ((env c d).kindOf (Str.ofString "isinstance") = some .globalImplicit) tacR) (hy : autoParam ((env c d).kindOf (Str.ofString "int") = some .globalImplicit) tacR) (hz : autoParam ((env c d).kindOf (Str.ofString "tree") = some .local) tacR) :
    TT c d σ (.Call (.Name (Str.ofString "isinstance") p1) [.Name (Str.ofString "tree") p, .Name (Str.ofString "int") p2] [] pos) (∃ i, T = .num i) := by
  have hb : ∃ bv : Bool, (bv = true ↔ ∃ i, T = .num i) ∧ ∀ (s : Shared) (Q : Value → Shared → Prop) (E : Value → Shared → Prop), Holds c d σ s.heap → (∀ tk, Q (.bool bv) { s with toks := tk }) → wpAny (model PySem.Challenge.rw_nt0638_01.row.prog d.w) (Ar c d) (call (.builtin "isinstance") [x, .type "int"]) Q E s := by
    have tup : ∀ {a : Addr} {its : List Value}, (a, tupOf its.toArray 0) ∈ σ.news → ∀ (s : Shared) (Q : Value → Shared → Prop) (E : Value → Shared → Prop), Holds c d σ s.heap → (∀ tk, Q (.bool false) { s with toks := tk }) → wpAny (model PySem.Challenge.rw_nt0638_01.row.prog d.w) (Ar c d) (call (.builtin "isinstance") [.ref a, .type "int"]) Q E s := by
      intro a its hm s Q E ⟨g, G⟩ k
      exact IsiPair.tuple_int (G.nw _ hm).1 rfl (k _)
    cases hT with
    | num h => obtain ⟨t, rfl⟩ := h; exact ⟨true, ⟨fun _ => ⟨_, rfl⟩, fun _ => rfl⟩, fun s Q E _ k => IsiPair.int_int (k s.toks)⟩
    | un h1 => exact ⟨false, Iff.intro (fun z => nomatch z) (fun z => let ⟨_, z⟩ := z; nomatch z), tup h1⟩
    | bin h1 => exact ⟨false, Iff.intro (fun z => nomatch z) (fun z => let ⟨_, z⟩ := z; nomatch z), tup h1⟩
  obtain ⟨bv, e, h⟩ := hb
  exact TT.mono (TT.plain (EP.isi (EP.name hv hz rfl) (g_int _) boot_int (by decide) h rfl rfl hx hy rfl)) e
end
/-- what the tree comes to -/
noncomputable def Tre.val (f h : Int) : Tre → Option Int
  | .num i => some i
  | .un t => (t.val f h).map fun a => wrapF (-a) f h
  | .bin op l r => (l.val f h).bind fun a => (r.val f h).bind fun b => arF op a b f h
theorem Tre.val_in {wd f h : Int} (W : Wd wd f h) {T : Tre} (ok : T.Ok h) {i : Int} (e : T.val f h = some i) : -h ≤ i ∧ i < h := by
  cases T with
  | num j => cases e; exact ok
  | un t =>
    obtain ⟨a, _, rfl⟩ := Option.map_eq_some_iff.mp e
    exact wrapF_in W
  | bin op l r =>
    obtain ⟨a, _, e⟩ := Option.bind_eq_some_iff.mp e
    obtain ⟨b, _, e⟩ := Option.bind_eq_some_iff.mp e
    exact arF_in W e
/-- a tree that is no number: its parts -/
inductive Node (b l : Addr) (news : Led) (f h : Int) (n : Nat) (a : Addr) (T : Tre) : Prop where
  | mk {its : List Value} {op : Int} {t : Tok} {v1 : Value} {T1 : Tre} : (a, tupOf its.toArray 0) ∈ news → seqIndex? 0 its.length = some 0 → seqIndex? 1 its.length = some 1 → its[0]? = some (.int op t) → its[1]? = some v1 → TreeIn b l news v1 T1 → T1.Ok h → T1.depth < n → (12 ≤ op ∧ op ≤ 18) →
      (op = 18 ∧ (T.val f h = (T1.val f h).bind fun a => arF op a 0 f h) ∨ (op ≠ 18 ∧ op ≤ 17) ∧ ∃ v2 T2, seqIndex? 2 its.length = some 2 ∧ its[2]? = some v2 ∧ TreeIn b l news v2 T2 ∧ T2.Ok h ∧ T2.depth < n ∧ (T.val f h = (T1.val f h).bind fun a => (T2.val f h).bind fun b => arF op a b f h)) → Node b l news f h n a T
theorem node_of {b l : Addr} {news : Led} {f h : Int} {n : Nat} {v : Value} {T : Tre} (hT : TreeIn b l news v T) (ok : T.Ok h) (hd : T.depth ≤ n) : (∃ i, T = .num i ∧ IsI i v) ∨ (¬ ∃ i, T = .num i) ∧ ∃ a, v = .ref a ∧ Node b l news f h n a T := by
  cases hT with
  | num h => exact .inl ⟨_, rfl, h⟩
  | un hm _ _ hT =>
    refine .inr ⟨fun z => (nomatch z), _, rfl, .mk (its := [_, _]) hm rfl rfl rfl rfl hT ok (Nat.lt_of_succ_le hd) (by decide) (.inl ⟨rfl, ?_⟩)⟩
    show Option.map _ (Tre.val f h _) = _
    cases Tre.val f h _ <;> rfl
  | bin hm _ _ hT hU =>
    exact .inr ⟨fun z => (nomatch z), _, rfl, .mk (its := [_, _, _]) hm rfl rfl rfl rfl hT ok.2.1 (Nat.lt_of_succ_le (Nat.le_trans (Nat.succ_le_succ (Nat.le_max_left _ _)) hd)) ⟨ok.1.1, Int.le_trans ok.1.2 (by decide)⟩ (.inr ⟨⟨fun z => absurd ok.1.2 (by rw [z]; decide), ok.1.2⟩, _, _, rfl, rfl, hU, ok.2.2, Nat.lt_of_succ_le (Nat.le_trans (Nat.succ_le_succ (Nat.le_max_right _ _)) hd), rfl⟩)⟩
theorem cmp_isO {o : Option Int} : CmpOk .Is (OI o) (fun v => v = .none) (o = none) := by
  rintro w A s Q E u _ hu rfl k
  refine is_none (k _ s.toks ?_)
  cases o with
  | none => obtain rfl : u = .none := hu; simp
  | some i => obtain ⟨t, rfl⟩ : IsI i u := hu; simp
theorem EP.oi {c : FnS} {d : Dy} {σ : St} {x : Str} {pos : Pos} {o : Option Int} {u : Value} (hu : OI o u) (hv : autoParam (σ.m x = some u) tacR) (hx : autoParam ((env c d).kindOf x = some .local) tacR) (hd : autoParam ((x == ("__debug__" : Str)) = false) tacR) : EP c d σ (.Name x pos) (OI o) := EP.mono (EP.name hv hx hd) fun _ e => e ▸ hu
theorem due_c (w : World) {b l : Addr} {wd f h : Int} {t : Tok} {news : Led} (W : Wd wd f h) : ∀ (n : Nat) (T : Tre) (v : Value), T.depth ≤ n → TreeIn b l news v T → T.Ok h → Con w 252 (n + 3) [v, .int wd t] news (GO (T.val f h) news) := by
  intro n
  induction n using Nat.strongRecOn with
  | ind n ih =>
  intro T v dp hT ok
  (refine' con_intro (binds := [(Str.ofString "tree", v), (Str.ofString "width", .int wd t)]) ?ho ?hcd ?hb ?hl ?c1 ?c2 ?c3 ?c4 ?_; (case ho => k_is); (case hcd => k_is); (case hb => exact fun s _ => BindsTo.of_eq rfl); (case hl => exact locs rfl); (case c1 => exact rfl); (case c2 => exact rfl); (case c3 => exact rfl); (case c4 => decide)); rintro d rfl hrm
  have r2 : 2 ≤ d.room := hrm ▸ Nat.le_add_left 2 n
  refine Ex.if_ (EP.isInt rfl hT) (fun z => ?_) (fun z => ?_)
  · rcases node_of (n := n) (f := f) hT ok dp with ⟨i, rfl, hi⟩ | ⟨z', -⟩
    · exact Ex.retB (R := IsI i) (EP.mono EP.name fun u e => e ▸ hi)
    · exact absurd z z'
  rcases node_of (n := n) (f := f) hT ok dp with ⟨i, rfl, -⟩ | ⟨-, a, rfl, @⟨its, op, t0, v1, T1, hm, j0, j1, g0, g1, hT1, ok1, dp1, hop, hc⟩⟩
  · exact absurd ⟨i, rfl⟩ z
  have rr : ∀ k, k < n → k + 3 ≤ d.room := fun k q => hrm ▸ Nat.add_le_add_right q 2
  refine Ex.assignK (P₁ := GO (T1.val f h) news) (Tr.mono (EP.callP (g_due _) (k_due _) (k := T1.depth + 3) (rr _ dp1) (Args.v (EP.subT EP.name hm EP.int (by decide) (by decide) j1 g1) (Args.v EP.name (Args.nil ⟨rfl, ih _ dp1 T1 v1 (Nat.le_refl _) hT1 ok1⟩)))) fun v σ' q => ⟨_, q.2 ▸ rfl, q.1, rfl⟩) ?_
  rintro u _ ⟨hu, rfl⟩
  refine Ex.if_ (TT.cmp (EP.oi hu) EP.none cmp_isO) (fun e => ?_) (fun e => ?_)
  · have : T.val f h = none := by rcases hc with ⟨-, y⟩ | ⟨-, _, _, -, -, -, -, -, y⟩ <;> rw [y, e] <;> rfl
    rw [this]; exact Ex.retB (R := OI none) EP.none
  obtain ⟨i, e1⟩ := Option.ne_none_iff_exists'.mp e
  have bi := W.sm (Tre.val_in W ok1 e1)
  rw [e1] at hu hc
  obtain ⟨t1, rfl⟩ : IsI i u := hu
  refine Ex.if_ (TT.cmp (EP.mono (R' := IsI op) (EP.subT EP.name hm EP.int (by decide) (by decide) j0 g0) fun v q => ⟨_, q⟩) EP.int cmp_eq) (fun y => ?_) (fun y => ?_)
  · rw [(hc.resolve_right fun q => q.1.1 y).2, y]
    exact Ex.retB (R := IsI _) (EP.lwrap (i := wrapF (-i) f h) W (Nat.le_trans (by decide) r2) (EP.bin EP.int EP.nameI op_sub) (fun v q => ⟨_, q, by rw [Int.zero_sub]⟩) rfl)
  obtain ⟨⟨-, h17⟩, v2, T2, j2, g2, hT2, ok2, dp2, ev⟩ := hc.resolve_left fun q => y q.1
  rw [ev]
  refine Ex.assignK (P₁ := GO (T2.val f h) news) (Tr.mono (EP.callP (g_due _) (k_due _) (k := T2.depth + 3) (rr _ dp2) (Args.v (EP.subT EP.name hm EP.int (by decide) (by decide) j2 g2) (Args.v EP.name (Args.nil ⟨rfl, ih _ dp2 T2 v2 (Nat.le_refl _) hT2 ok2⟩)))) fun v σ' q => ⟨_, q.2 ▸ rfl, q.1, rfl⟩) ?_
  rintro u _ ⟨hu, rfl⟩
  refine Ex.retB (R := OI _) (EP.ifexp (TT.cmp (EP.oi hu) EP.none cmp_isO) (fun e => ?_) (fun e => ?_))
  · rw [e]; exact EP.none
  obtain ⟨j, e2⟩ := Option.ne_none_iff_exists'.mp e
  have bj := W.sm (Tre.val_in W ok2 e2)
  rw [e2] at hu ⊢
  obtain ⟨t2, rfl⟩ : IsI j u := hu
  exact EP.callP (R := OI (arF op i j f h)) (g_ltwo _) (k_ltwo _) (k := 2) r2 (Args.v (EP.subT EP.name hm EP.int (by decide) (by decide) j0 g0) (Args.v EP.name (Args.v EP.name (Args.v EP.name (Args.nil ⟨rfl, ltwo_c d.w W ⟨hop.1, h17⟩ bi bj⟩)))))
end Mine

namespace Mine
open PySem PySem.W PySem.Spec PySem.Calls PyProof.Rows
theorem fill__j_X1 : (PySem.Challenge.rw_nt0638_01, KK) = (PySem.Challenge.rw_nt0638_01, KK) := by k_fill; rfl
/-- the class LuaError as it lies -/
theorem lua_look (w : World) : ∃ nm q bs sn sub ab col dd k0 k1 k2 k3 k5, (KK w.params).lookup 130 = some (excClassObj nm q 130 129 bs [.type "Exception", .type "BaseException", .type "object"] true sn sub ab col dd k0 k1 k2 k3 k5 "Exception.__new__") :=
  ⟨_, _, _, _, _, _, _, _, _, _, _, _, _, by k_is⟩
theorem lua_elim (w : World) {G : Prop} (k : ∀ nm q bs sn sub ab col dd k0 k1 k2 k3 k5, (KK w.params).lookup 130 = some (excClassObj nm q 130 129 bs [.type "Exception", .type "BaseException", .type "object"] true sn sub ab col dd k0 k1 k2 k3 k5 "Exception.__new__") → G) : G := by
  obtain ⟨nm, q, bs, sn, sub, ab, col, dd, k0, k1, k2, k3, k5, hl⟩ := lua_look w
  exact k nm q bs sn sub ab col dd k0 k1 k2 k3 k5 hl
/-- a LuaError made of the one argument that the tuple at t holds -/
noncomputable abbrev exObj (t : Addr) (od : Option Addr) : Obj := { cls := .ref 130, dict := od, data := .fields #[.ref t, .none, .none, .none, .bool false, .none] }
section
variable {w : World} {A : Around} {s : Shared} {x t dx : Addr} {od : Option Addr} {dob : Option Obj} {name : Str} {v : Value} {tk : Tok}
theorem exc_open {R : Result → Shared → Prop} (X : (KK w.params).In s.heap) (I : W.InstAt s.heap x (exObj t od) 130 dob) (hf : findIn (KK w.params) (.ref 130) name = some none)
    (h : wpAny (model PySem.Challenge.rw_nt0638_01.row.prog w) A.in1 (Builtin.ObjectAttr.storeInOwnDict (.ref x) (.ref 130) (.str name tk) name v false)
      (fun fin s' => match fin with | .done f => R (.ok f) s' | .again c' => c'.quiet = true ∧ codeAny (model PySem.Challenge.rw_nt0638_01.row.prog w) A c' R s') (fun e s' => R (.error e) s') s) :
    codeAny (model PySem.Challenge.rw_nt0638_01.row.prog w) A (.call (.builtin "object.__setattr__") ⟨[.ref x, .str name tk, v], []⟩) R s := by
  refine lua_elim w fun nm q bs sn sub ab col dd k0 k1 k2 k3 k5 hl => ?_
  have hC := X _ _ hl
  have SF := PySem.F.store_Exception
  refine codeAny_call_builtin SF.slot.plain SF.entry ?_
  obtain ⟨hp, gs, dr, tk', os⟩ := s
  have h1 := I.at_
  dsimp only at hC h1
  have z := fun Q E => @wpAny_check_sa A.in1 E hp gs dr tk' os nm q 130 129 x bs _ sn sub ab col dd k0 k1 k2 k3 k5 _ _ _ _ v (model PySem.Challenge.rw_nt0638_01.row.prog w) _ (.str name tk) Q SF hC h1 rfl
  refine z _ _ ?_
  rw [osa_eq, refuse_eq]
  refine wpAny_bind (wpAny_bind (I.type.here (wpAny_bind (wpAny_mroOf_exc hC ?_))))
  rw [refuseLoop_ref, SF.passes]
  exact wpAny_pure (wpAny_bind (I.type.here (wpAny_bind ((looks_findIn X hf).here (wpAny_bind (wpAny_pure h))))))
end
section
variable {c : FnS} {d : Dy} {x t dx : Addr} {m : Str → Option Value} {name : Str} {v : Value} {tk : Tok} {es : List DictEntry} {n : Nat} {news : Led} {s : Shared} {A : Around} {E : Value → Shared → Prop} {g : Heap}
theorem store_in {Q : Fin → Shared → Prop} (G : HoldsG c d ⟨m, (dx, dictOf es n) :: news⟩ s.heap g) (hne : ∀ p ∈ news, p.1 ≠ dx) (hl : (getL name es).isSome = true) (hz : es.length ≤ 900)
    (k : ∀ h' tk' hs u, HoldsG c d ⟨m, (dx, dictOf (putL name hs (.str name u) v es) (putN name es n)) :: news⟩ h' g → Q (.done (.ret .none)) { s with heap := h', toks := tk' }) :
    wpAny (model PySem.Challenge.rw_nt0638_01.row.prog d.w) A (Builtin.ObjectAttr.storeInDict dx (.str name tk) name v) Q E s := by
  have D := (G.nw _ (.head _)).1
  obtain ⟨U1, U2⟩ := news_upd (pre := []) (f := Obj.putName name (PyData.keyHash d.w.params name) (.str name s.toks) v) G.fr G.nw (fun _ z => nomatch z) hne (putName_dict _ _ _ _ _ _) rfl
  have D' := (U2 _ (.head _)).1
  unfold Builtin.ObjectAttr.storeInDict nsSet
  refine wpAny_bind (wpAny_pure (wpAny_bind (wpAny_bind (wpAny_bind (wpAny_askSetting (wpAny_pure (wpAny_bind (wpAny_mkText (wpAny_bind (wpAny_loadPart D ?_))))))))))
  have z : (!es.toArray.any (·.key.isStr name) && es.toArray.any (·.refKey)) = false := by
    rw [List.any_toArray, List.any_toArray]
    unfold getL at hl
    split at hl
    · rename_i en he
      rw [List.any_eq_true.mpr ⟨en, List.mem_of_find?_eq_some he, List.find?_some he⟩]; rfl
    · split at hl
      · cases hl
      · rename_i z; rw [Bool.not_eq_true] at z; rw [z, Bool.and_false]
  dsimp only
  rw [aRefKeyMayBeTheName_at, z]
  refine wpAny_updatePart D ?_
  refine wpAny_bind (wpAny_lookBehind D' (pastItsLine_dict (by rw [List.size_toArray, sizeLine_eq]; exact Nat.le_trans putL_len (Nat.le_trans (Nat.succ_le_succ hz) (by decide)))) ?_)
  exact wpAny_pure (k _ _ _ _ ⟨G.ok, G.bl, G.tn, G.dc, U1, U2⟩)
end
theorem s_lua (w : World) : findIn (KK w.params) (.ref 130) "__setattr__" = some (some (.builtin "object.__setattr__")) := by k_is
theorem d_lua (w : World) : hasDictIn (KK w.params) 130 = true := by k_is
theorem f_value (w : World) : findIn (KK w.params) (.ref 130) (Str.ofString "value") = some none := by k_is
theorem f_trace (w : World) : findIn (KK w.params) (.ref 130) (Str.ofString "trace") = some none := by k_is
section
variable {c : FnS} {d : Dy} {σ : St} {x t dx : Addr} {name : Str} {v : Value} {es : List DictEntry} {n : Nat} {news : Led} {PU : Unit → St → Prop} {P : Flow → St → Prop} {rest : List Stmt} {e o : PySem.Expr} {pos p2 : Pos}
theorem Tr.setExc1 {m : Str → Option Value} (hne : ∀ p ∈ news, p.1 ≠ x) (hf : findIn (KK d.w.params) (.ref 130) name = some Option.none)
    (k : ∀ dx h u, (∀ p ∈ news, p.1 ≠ dx) → x ≠ dx → PU () ⟨m, (dx, dictOf (putL name h (.str name u) v []) (putN name [] 0)) :: (x, exObj t (some dx)) :: news⟩) : Tr c d ⟨m, (x, exObj t Option.none) :: news⟩ (PySem.setAttr (.ref x) name v) PU := by
  rintro s Q E ⟨g, G⟩ r
  have I : W.InstAt s.heap x (exObj t Option.none) 130 Option.none := ⟨(G.nw _ (.head _)).1, rfl, rfl, trivial⟩
  obtain ⟨cd, hc, hd'⟩ := any_some (d_lua d.w)
  refine set_plain G.xh I (s_lua _) (exc_open G.xh I hf ?_)
  refine wpAny_bind (wpAny_pure (wpAny_bind (wpAny_bind (wpAny_loadPart I.at_ (wpAny_bind (Looks.here (s := { s with toks := s.toks + 1 }) (looks_clsIn G.xh hc) ?_))))))
  rw [hd']
  have hlt : x < s.heap.objs.size := Heap.lt_size I.at_
  have N1 := G.nw.push G.fr (dictOf [] 0)
  obtain ⟨F2, N2⟩ := news_upd (pre := [(s.heap.objs.size, dictOf [] 0)]) (f := fun o : Obj => { o with dict := some s.heap.objs.size }) (G.fr.push (dictOf [] 0)) N1 (fun p hp => by rw [List.mem_singleton.mp hp]; exact Nat.ne_of_gt hlt) hne rfl rfl
  refine wpAny_bind (wpAny_alloc (wpAny_bind (wpAny_update ((G.fr.push (dictOf [] 0)).ns.elim fun _ _ => (N1 _ (.tail _ (.head _))).1) (wpAny_pure ?_))))
  have lt : ∀ p ∈ news, p.1 ≠ s.heap.objs.size := fun p hp => Nat.ne_of_lt (Heap.lt_size (G.nw p (.tail _ hp)).1)
  refine store_in (s := { s with heap := _, toks := _ }) ⟨G.ok, G.bl, G.tn, G.dc, F2, N2⟩ (fun p hp => (List.mem_cons.mp hp).elim (fun e => e ▸ Nat.ne_of_lt hlt) (lt p)) rfl (by simp) fun h' tk' hs u G' => ?_
  exact r () _ h' tk' (k _ hs u lt (Nat.ne_of_lt hlt)) ⟨g, G'⟩
theorem Tr.setExc2 (hx : (x, exObj t (some dx)) ∈ σ.news) (hm : (dx, dictOf es n) ∈ σ.news) (hne : x ≠ dx) (hf : findIn (KK d.w.params) (.ref 130) name = some Option.none) (hl : (getL name es).isSome = true) (hz : es.length ≤ 900)
    (k : ∀ h u, PU () ⟨σ.m, (dx, dictOf (putL name h (.str name u) v es) (putN name es n)) :: Mine.rest dx σ.news⟩) : Tr c d σ (PySem.setAttr (.ref x) name v) PU := by
  intro s Q E H r
  obtain ⟨g, G⟩ := H.split hm
  have I : W.InstAt s.heap x (exObj t (some dx)) 130 (some (dictOf es n)) := ⟨(G.nw _ (.tail _ (mem_rest hx hne))).1, rfl, rfl, (G.nw _ (.head _)).1⟩
  obtain ⟨cd, hc, hd'⟩ := any_some (d_lua d.w)
  refine set_plain G.xh I (s_lua _) (exc_open G.xh I hf ?_)
  refine wpAny_bind (wpAny_pure (wpAny_bind (wpAny_bind (wpAny_loadPart I.at_ (wpAny_bind (Looks.here (s := { s with toks := s.toks + 1 }) (looks_clsIn G.xh hc) ?_))))))
  rw [hd']
  refine wpAny_pure ?_
  refine store_in (s := { s with toks := _ }) G rest_ne hl hz fun h' tk' hs u G' => ?_
  exact r () _ h' tk' (k hs u) ⟨g, G'⟩
/-- o.name = e where e may turn the state -/
theorem Ex.attrT {P₁ : Value → St → Prop} (he : Tr c d σ (eval e (env c d)) P₁) (ho : ∀ v σ', P₁ v σ' → EP c d σ' o (fun u => u = .ref x)) (k : ∀ v σ', P₁ v σ' → Tr c d σ' (PySem.setAttr (.ref x) name v) (fun _ σ' => Tr c d σ' (execs rest (env c d)) P))
    (hs : autoParam (swapsWith e (some (.Attribute o name p2)) pos.line (env c d) = Pure.pure false) tacR) : Tr c d σ (execs (.Assign [.Attribute o name p2] e pos :: rest) (env c d)) P := by
  refine Ex.cons ?_
  intro s Q E H r
  refine plainObj_wpAny_Assign_Attribute (he s _ E H ?_) hs
  intro v σ' h' tk' hv H'
  refine ho v σ' hv { s with heap := h', toks := tk' } _ E H' ?_
  rintro _ σ' h2 tk2 ⟨rfl, rfl⟩ H2
  refine k v _ hv { s with heap := h2, toks := tk2 } _ E H2 ?_
  intro _ σ3 h3 tk3 p3 H3
  exact r .next σ3 h3 tk3 p3 H3
end
theorem luainit_c (w : World) {e t : Addr} {v : Value} {news : Led} (hne : ∀ p ∈ news, p.1 ≠ e) : Con w 127 1 [.ref e, v] ((e, exObj t none) :: news) (fun r n' => r = .none ∧ ∃ dx, (e, exObj t (some dx)) ∈ n' ∧ ∀ p ∈ news, p ∈ n') := by
  (refine' con_intro (binds := [(Str.ofString "self", .ref e), (Str.ofString "value", v)]) ?ho ?hcd ?hb ?hl ?c1 ?c2 ?c3 ?c4 ?_; (case ho => k_is); (case hcd => k_is); (case hb => exact fun s _ => BindsTo.of_eq rfl); (case hl => exact locs rfl); (case c1 => exact rfl); (case c2 => exact rfl); (case c3 => exact rfl); (case c4 => decide)); rintro d rfl hrm
  refine Ex.attrT (P₁ := fun u σ' => u = v ∧ σ' = ⟨_, (e, exObj t none) :: news⟩) (Tr.mono EP.name fun u σ' q => ⟨q.1, q.2.symm⟩) (by rintro u _ ⟨rfl, rfl⟩; exact EP.name) ?_
  rintro u _ ⟨rfl, rfl⟩
  refine Tr.setExc1 hne (f_value _) fun dx h1 u1 n1 n2 => ?_
  refine Ex.attrT (P₁ := fun r σ' => ∃ a, (∀ p ∈ (dx, _) :: (e, exObj t (some dx)) :: news, p.1 < a) ∧ σ' = ⟨_, (a, listOf [].toArray 0) :: (dx, _) :: (e, exObj t (some dx)) :: news⟩) (EP.list (Args.nil ⟨by decide, fun a ha => ⟨a, ha, rfl⟩⟩)) (by rintro r _ ⟨a, ha, rfl⟩; exact EP.name) ?_
  rintro r _ ⟨a, ha, rfl⟩
  refine Tr.setExc2 (.tail _ (.tail _ (.head _))) (.tail _ (.head _)) n2 (f_trace _) rfl (show (1 : Nat) ≤ 900 by decide) fun h2 u2 => ?_
  exact Ex.nil ⟨rfl, dx, .tail _ (mem_rest (.tail _ (.tail _ (.head _))) n2), fun p hp => .tail _ (mem_rest (.tail _ (.tail _ (.tail _ hp))) (n1 p hp))⟩
end Mine

namespace Mine
open PySem PySem.W PySem.Spec PySem.Calls PyProof.Rows
theorem fill__j_X2 : (PySem.Challenge.rw_nt0638_01, KK) = (PySem.Challenge.rw_nt0638_01, KK) := by k_fill; rfl
noncomputable abbrev RaisedL (base G : Heap) (l : List Env) (e : Addr) (news : Led) (h : Heap) : Prop := RaisedSN base G l e (.ref 130) news h
theorem raised_turn {base G G' h : Heap} {l : List Env} {e : Addr} {news : Led} (T : KtsTurn (l.filterMap (·.frame)) G G') (R : RaisedL base G' l e news h) : RaisedL base G l e news h := by
  obtain ⟨B, a0, h1, h2, h3, h4⟩ := R
  refine ⟨B, a0, h1, fun b o hb hn => h2 b o (T.other b o hb hn) hn, fun q hq => ⟨(h3 q hq).1, ?_, (h3 q hq).2.2⟩, h4⟩
  cases z : G.get? q.1 with
  | none => rfl
  | some o => obtain ⟨sl, hs⟩ := T.up z; rw [(h3 q hq).2.1] at hs; cases hs
theorem turn_upto {fs : List Addr} {G G' h : Heap} (T : KtsTurn fs G G') (u : G'.UpToSlots h) : G.UpToSlots h := by
  intro b o hb hn
  obtain ⟨sl, hs⟩ := T.up hb
  obtain ⟨sl2, hs2⟩ := u b _ hs hn
  exact ⟨sl2, hs2⟩
/-- the LuaError e leaves the frame, nothing else does -/
noncomputable def Leaves (c : FnS) (d : Dy) (N : Led) (e : Addr) (s' : Shared) : Prop := ∀ (Q : Unit → Shared → Prop) (E' : Value → Shared → Prop), (∀ h', RaisedL d.base d.g₀ d.outer e N h' → d.g₀.UpToSlots h' → Q () { s' with heap := h' }) →
  wpAny (model PySem.Challenge.rw_nt0638_01.row.prog d.w) (Ar c d) (leaving (env c d) (.ref e)) Q E' s'
/-- the LuaError e has come out of a call -/
structure FlownG (c : FnS) (d : Dy) (m : Str → Option Value) (N : Led) (e : Addr) (h' g G : Heap) : Prop where
  ok : Ok c d
  bl : Below d.A₀ d.base d.outer g
  tn : KtsTurn d.fs d.g₀ g
  dc : KtsDicts d.fs g
  fr : Fr g d.L G m
  rs : RaisedL d.base G (env c d :: d.outer) e N h'
  up : G.UpToSlots h'
noncomputable def Flown (c : FnS) (d : Dy) (m : Str → Option Value) (N : Led) (e : Addr) (s' : Shared) : Prop := ∃ g G, FlownG c d m N e s'.heap g G
theorem Flown.leaves {c : FnS} {d : Dy} {m : Str → Option Value} {N : Led} {e : Addr} {s' : Shared} (f : Flown c d m N e s') : Leaves c d N e s' := by
  obtain ⟨g, G, f⟩ := f
  exact fun Q E' k => leave_onSN f.bl f.fr f.rs f.up fun h' R _ U => k h' (raised_turn f.tn R) (turn_upto f.tn U)
/-- the tree t raises a LuaError, for sure -/
noncomputable def TrE {α : Type} (c : FnS) (d : Dy) (σ : St) (U : Addr → Shared → Prop) (t : Sem α) : Prop :=
  ∀ (s : Shared) (Q : α → Shared → Prop) (E : Value → Shared → Prop), Holds c d σ s.heap → (∀ e h' tk', U e { s with heap := h', toks := tk' } → E (.ref e) { s with heap := h', toks := tk' }) →
    wpAny (model PySem.Challenge.rw_nt0638_01.row.prog d.w) (Ar c d) t Q E s
/-- a call that raises a LuaError, for sure -/
noncomputable def ConE (w : World) (f : Addr) (k : Nat) (vs : List Value) (news : Led) : Prop :=
  ∀ (c : FnS) (d : Dy) (σ : St) (A : Around) (s : Shared) (R : Result → Shared → Prop), d.w = w → σ.news = news → A.frames = some (env c d :: d.outer) → A.handled = none → A.guards = some [] → A.depth + k < recursionLimit → A.units + 8 * k < cLine →
    Holds c d σ s.heap → (∀ e h' tk', Flown c d σ.m news e { s with heap := h', toks := tk' } → R (.error (.ref e)) { s with heap := h', toks := tk' }) →
    codeAny (model PySem.Challenge.rw_nt0638_01.row.prog w) A (.call (.ref f) ⟨vs, []⟩) R s
theorem conE_intro {w : World} {f : Addr} {k : Nat} {vs : List Value} {news : Led} {name qual : Str} {params : Arguments} {body : List Stmt} {scope : Scope} {dV kV doc pm cdv ct oc : Value} {an od : Option Addr} {osl : Array (Option Value)} {binds : List (Str × Value)}
    (ho : (KK w.params).lookup f = some ⟨oc, od, .func (fnOf name qual params body scope dV kV doc pm an cdv ct), osl⟩) (hcd : codeIn (KK w.params) cdv qual = true)
    (hbind : ∀ s, (KK w.params).In s.heap → BindsTo s (fnOf name qual params body scope dV kV doc pm an cdv ct) ⟨vs, []⟩ binds) (hloc : ∀ y ∈ binds, scope.names.lookup y.1 = some .local)
    (hco : scope.isCoroutine = false) (hgen : scope.isGenerator = false) (hk : scope.kind = .function) (hcell : ∀ x ∈ scope.names, x.2 ≠ .cell)
    (h : ∀ (d : Dy), d.w = w → d.room = k → TrE ⟨qual, scope, f, cdv⟩ d ⟨fun y => binds.reverse.lookup y, news⟩ (Leaves ⟨qual, scope, f, cdv⟩ d news) (execs body (env ⟨qual, scope, f, cdv⟩ d))) :
    ConE w f (k + 1) vs news := by
  rintro c d σ A s R rfl rfl hA hh hgd hdp hun H₀ ret
  obtain ⟨g₁, H⟩ := H₀
  refine code_defS (mean := d.mean) (mg := d.mg) (mb := d.mb) H.bl H.fr H.x H.nw H.t H.ok.xb H.ok.tb H.dc H.tn hA ho hcd (Nat.lt_of_le_of_lt (Nat.le_add_right _ _) hdp) (hbind _ H.xh) hloc (fun g L' h₁ FG F' N' B' X' T' D' => ?_) H.ok.kind hco hgen hk hcell
  refine h ⟨d.w, L', env c d :: d.outer, A, d.base, g, d.mean, d.mg, d.mb, k⟩ rfl rfl { s with heap := h₁, toks := _ } _ _ ⟨g, ⟨hk, hh, hgd, ?_, ?_, H.ok.xb, H.ok.tb⟩, B', KtsTurn.refl, D', F', N'⟩ ?_
  · exact Nat.lt_of_le_of_lt (Nat.le_of_eq (Nat.add_right_comm _ _ _)) hdp
  · exact room_in hun
  · intro e h' tk' hl
    exact hl _ _ fun h2 R2 U2 => ret e h2 tk' ⟨g₁, g, H.ok, H.bl, H.tn, H.dc, FG, R2, U2⟩
section
variable {c : FnS} {d : Dy} {σ : St} {U : Addr → Shared → Prop} {rest body orelse : List Stmt} {st : Stmt} {e t fe : PySem.Expr} {es : List PySem.Expr} {pos px : Pos} {p : Prop} {x : Str}
theorem TrE.mono {α : Type} {t : Sem α} {U' : Addr → Shared → Prop} (h : TrE c d σ U t) (k : ∀ e s, U e s → U' e s) : TrE c d σ U' t := fun s Q E H r => h s Q E H fun e h' tk' u => r e h' tk' (k _ _ u)
theorem TrE.cons (h : TrE c d σ U (exec st (env c d))) : TrE c d σ U (execs (st :: rest) (env c d)) := fun s Q E H r => wpAny_execs_cons (h s _ E H r)
theorem TrE.then_ {P : Flow → St → Prop} (h : Tr c d σ (exec st (env c d)) P) (k : ∀ f σ', P f σ' → f = .next ∧ TrE c d σ' U (execs rest (env c d))) : TrE c d σ U (execs (st :: rest) (env c d)) := by
  intro s Q E H r
  refine wpAny_execs_cons (h s _ E H fun f σ' h' tk' hf H' => ?_)
  obtain ⟨rfl, h2⟩ := k f σ' hf
  exact h2 _ _ _ H' fun e h2 tk2 u => r e h2 tk2 u
theorem TrE.yes (ht : TT c d σ t p) (hp : p) (h : TrE c d σ U (execs body (env c d))) : TrE c d σ U (execs (.If t body orelse pos :: rest) (env c d)) := by
  refine TrE.cons ?_
  intro s Q E H r
  refine wpAny_If (ht s _ E H ?_)
  rintro b σ' h' tk' ⟨hb, rfl⟩ H'
  cases b with
  | true => exact h _ _ _ H' fun e h2 tk2 u => r e h2 tk2 u
  | false => exact nomatch hb.mpr hp
theorem TrE.no (ht : TT c d σ t p) (hp : ¬ p) (h : TrE c d σ U (execs rest (env c d))) : TrE c d σ U (execs (.If t body [] pos :: rest) (env c d)) := by
  intro s Q E H r
  refine wpAny_execs_cons (wpAny_If (ht s _ E H ?_))
  rintro b σ' h' tk' ⟨hb, rfl⟩ H'
  cases b with
  | true => exact absurd (hb.mp rfl) hp
  | false => exact wpAny_execs_nil (h _ _ _ H' fun e h2 tk2 u => r e h2 tk2 u)
theorem TrE.assignI {i : Int} (he : EP c d σ e (IsI i)) (k : ∀ tk, TrE c d ⟨upd σ.m x (.int i tk), σ.news⟩ U (execs rest (env c d)))
    (hx : autoParam ((env c d).kindOf x = some .local) tacR) (hs : autoParam (swapsWith e (some (.Name x px)) pos.line (env c d) = Pure.pure false) tacR) : TrE c d σ U (execs (.Assign [.Name x px] e pos :: rest) (env c d)) := by
  intro s Q E H r
  refine wpAny_execs_cons (wpAny_Assign_Name (he s _ E H ?_) hs)
  rintro v σ' h' tk' ⟨⟨tk, rfl⟩, rfl⟩ ⟨g, G⟩
  refine storeX_L G.fr G.nw (fun h2 F2 N2 => ?_) G.ok.kind hx
  exact k tk { s with heap := h2, toks := _ } Q E (G.to F2 N2) fun e h2 tk2 u => r e h2 tk2 u
theorem TrE.ret (h : TrE c d σ U (eval e (env c d))) : TrE c d σ U (execs (.Return (some e) pos :: rest) (env c d)) := TrE.cons fun s Q E H r => wpAny_Return_some (h s _ E H r)
theorem TrE.call {f : Addr} {k : Nat} {vs : List Value} (C : ConE d.w f k vs σ.news) (hr : k ≤ d.room) : TrE c d σ (Flown c d σ.m σ.news) (PySem.call (.ref f) vs) := by
  intro s Q E H r
  obtain ⟨g, G⟩ := id H
  refine wpAny_call (C c d σ _ s _ rfl rfl (Around.frames_deeper G.bl.stack) G.ok.handled G.ok.guards ?_ ?_ H fun e h' tk' u => r e h' tk' u)
  · exact room_d hr G.ok.depth
  · exact room_u hr G.ok.units
theorem TrE.callG {f : Addr} (hf : Tr c d σ (eval fe (env c d)) (fun v σ' => v = .ref f ∧ σ = σ')) (hk : keepIn (KK d.w.params) (.ref f) = true)
    (ha : Args c d σ pos (e :: es) (fun vs σ' => TrE c d σ' U (PySem.call (.ref f) vs))) (hs : autoParam (starEach (e :: es) (env c d) = (false, eval e (env c d)) :: starEach es (env c d)) tacR) (hp : autoParam ((backTo pos (starEach es (env c d))).any (·.1) = false) tacR)
    (he : autoParam (eval (.Call fe (e :: es) [] pos) (env c d) = (do callWith pos (← eval fe (env c d)) [] (backTo pos (starEach (e :: es) (env c d))) (backToKw pos (keywordEach [] (env c d))))) tacR) :
    TrE c d σ U (eval (.Call fe (e :: es) [] pos) (env c d)) := by
  intro s Q E H r
  refine Call_ (hf s _ E H ?_) he
  rintro v σ' h' tk' ⟨rfl, rfl⟩ H'
  obtain ⟨g, G⟩ := id H'
  refine callWith_K (first := []) G.x hk ?_ hs hp
  refine ha _ _ E H' ?_
  rintro vs σ2 h2 tk2 hv H2
  obtain ⟨g2, G2⟩ := id H2
  exact ⟨G2.xh, hv _ _ _ H2 fun e h3 tk3 u => r e h3 tk3 u⟩
end
end Mine

namespace Mine
open PySem PySem.W PySem.Spec PySem.Calls PyProof.Rows
theorem fill__j_X3 : (PySem.Challenge.rw_nt0638_01, KK) = (PySem.Challenge.rw_nt0638_01, KK) := by k_fill; rfl
theorem g_lua (w : World) : nsIn (KK w.params) mainGlobals (Str.ofString "LuaError") = some (some (.ref 130)) := by k_is
theorem k_lua (w : World) : keepIn (KK w.params) (.ref 130) = true := by k_is
noncomputable def allStr (es : List DictEntry) : Bool := es.all fun e => match e.key with | .str _ _ => true | _ => false
theorem allStr_keys {es : List DictEntry} (h : allStr es = true) : StrKeys es.toArray := by
  intro e he
  have := List.all_eq_true.mp h e (List.mem_toArray.mp he)
  cases hk : e.key <;> rw [hk] at this <;> first | exact ⟨_, _, rfl⟩ | cases this
theorem lua_ns (w : World) : ∃ es n, (KK w.params).lookup 129 = some (dictOf es n) ∧ allStr es = true ∧ nsFind es.toArray "__init__" = some (.ref 127) := ⟨_, _, by k_is, by rfl, by rfl⟩
theorem lua_fn (w : World) : ∃ o, (KK w.params).lookup 127 = some o ∧ o.cls = .type "function" := ⟨_, by k_is, by rfl⟩
theorem Tr.lua {c : FnS} {d : Dy} {σ : St} {v : Value} (hr : 2 ≤ d.room) : Tr c d σ (PySem.call (.ref 130) [v]) (fun r σ' => ∃ e t dx, r = .ref e ∧ (e, exObj t (some dx)) ∈ σ'.news ∧ (∀ p ∈ σ.news, p ∈ σ'.news ∧ p.1 ≠ e) ∧ σ'.m = σ.m) := by
  rintro ⟨hp, gs, dr, tk, os⟩ Q E ⟨g, G⟩ r
  refine lua_elim d.w fun nm q bs sn sub ab col dd k0 k1 k2 k3 k5 hl => ?_
  obtain ⟨es, n, hes, has, hi⟩ := lua_ns d.w
  obtain ⟨o, ho, hoc⟩ := lua_fn d.w
  have X := G.xh
  refine wpAny_call_exc_init PySem.F.excBase_Exception (X _ _ hl) (mN := nsFind es.toArray) ⟨_, _, _, X _ _ hes, rfl, allStr_keys has, fun _ => rfl⟩ hi (X _ _ ho) hoc (fun h' e M => ?_) (by size_fits)
  obtain ⟨t, he, -, -⟩ := M.there
  have F' := G.fr.keeps M.keeps
  have N' : News g d.L h' σ.news := fun p hp => ⟨M.keeps _ _ (G.nw p hp).1, (G.nw p hp).2⟩
  have N2 : News g d.L h' ((e, exObj t none) :: σ.news) := News.more F' N' he (fun _ _ z => nomatch z) (kts_none G.fr.keep M.new)
  have hne : ∀ p ∈ σ.news, p.1 ≠ e := fun p hp z => by
    have := (G.nw p hp).1
    rw [z, M.new] at this; cases this
  have H' : Holds c d ⟨σ.m, (e, exObj t none) :: σ.news⟩ h' := ⟨g, G.ok, G.bl, G.tn, G.dc, F', N2⟩
  refine wpAny_call (luainit_c d.w hne c d ⟨σ.m, (e, exObj t none) :: σ.news⟩ _ ⟨h', gs, dr, tk, os⟩ _ rfl rfl (Around.frames_deeper G.bl.stack) G.ok.handled G.ok.guards ?_ ?_ H' ?_)
  · exact room_e hr G.ok.depth
  · exact room_m hr G.ok.units
  · rintro r' σ' h2 tk2 ⟨rfl, dx, hm, hall⟩ hmm H2
    exact ⟨rfl, r _ σ' h2 tk2 ⟨e, t, dx, rfl, hm, fun p hp => ⟨hall p hp, hne p hp⟩, hmm⟩ H2⟩
/-- raise of a LuaError that was made -/
theorem raiseStmt_lua {c : FnS} {d : Dy} {s : Shared} {A : Around} {en : Env} {x : Sem Value} {E : Value → Shared → Prop} {Q : Flow → Shared → Prop} (hh : A.handled = none)
    (h : wpAny (model PySem.Challenge.rw_nt0638_01.row.prog d.w) A x (fun v s₁ => ∃ e t od, v = .ref e ∧ (KK d.w.params).In s₁.heap ∧ s₁.heap.get? e = some (exObj t od) ∧ E (.ref e) s₁) E s) :
    wpAny (model PySem.Challenge.rw_nt0638_01.row.prog d.w) A (raiseStmt en (some x) none) Q E s := by
  refine lua_elim d.w fun nm q bs sn sub ab col dd k0 k1 k2 k3 k5 hl => ?_
  have hcB : (Value.ref 130 :: [.type "Exception", .type "BaseException", .type "object"]).contains (.type "BaseException") = true := by decide
  unfold raiseStmt
  refine wpAny_bind (wpAny_mono h (fun v s₁ h₁ => ?_) fun _ _ x => x)
  obtain ⟨e, t, od, rfl, X, he, hE⟩ := h₁
  have hC := X _ _ hl
  clear X h hl
  obtain ⟨hp, g, d, tk, os⟩ := s₁
  repeat (first | with_reducible refine wpAny_loadPart_at he ?_ | with_reducible refine wpAny_loadPart_at hC ?_ | (with_reducible refine wpAny_isSubtype_exc hC ?_; rw [hcB]) | wp_step)
  exact wpAny_raiseNew_none hh hE
section
variable {c : FnS} {d : Dy} {σ : St} {rest : List Stmt} {e : PySem.Expr} {pos p1 p2 p3 : Pos} {N : Led}
theorem leaves_of {e : Addr} {t : Addr} {od : Option Addr} {s : Shared} (H : Holds c d σ s.heap) (he : (e, exObj t od) ∈ σ.news) (hN : ∀ p ∈ N, p ∈ σ.news ∧ p.1 ≠ e) : Leaves c d N e s := by
  obtain ⟨g, G⟩ := H
  intro Q E' k
  have K' := G.bl.push (name := c.name) (a := c.f) (cd := c.cd) G.fr G.ok.kind
  have hin : ∀ en ∈ (env c d :: d.outer), ∀ b, en.frame = some b → b ∈ e :: (env c d :: d.outer).filterMap (·.frame) := fun en he b hb => .tail _ (List.mem_filterMap.mpr ⟨en, he, hb⟩)
  have hnb : ∀ b o, (∀ z ∈ (env c d :: d.outer).filterMap (·.frame), z ≠ b) → b ≠ e → s.heap.get? b = some o → (hideAll s.heap (e :: (env c d :: d.outer).filterMap (·.frame))).get? b = some o := fun b o h1 h2 q => hideAll_get _ q fun hm => by
    rcases List.mem_cons.mp hm with z | z
    · exact h2 z
    · exact h1 b z rfl
  have hge := (G.nw _ he).2.2
  have st : d.base.StaysIn (hideAll s.heap (e :: (env c d :: d.outer).filterMap (·.frame))) := fun b o q => hnb b o (fun z hz e1 => by
    subst e1; rw [(K'.frames.mem hz).1] at q; cases q) (fun e1 => by subst e1; rw [fresh_of_stays G.bl.stays hge] at q; cases q) (K'.stays b o q)
  have sg : ∀ b o, g.get? b = some o → b ∉ d.outer.filterMap (·.frame) → (hideAll s.heap (e :: (env c d :: d.outer).filterMap (·.frame))).get? b = some o := fun b o q nm => hnb b o (fun z hz e1 => by
    subst e1
    rcases kts_mem hz with y | y
    · rw [y, kts_self G.fr] at q; cases q
    · exact nm y) (fun e1 => by subst e1; rw [hge] at q; cases q) (G.fr.keep b o q)
  have hl : ∀ q ∈ N, (hideAll s.heap (e :: (env c d :: d.outer).filterMap (·.frame))).get? q.1 = some q.2 ∧ g.get? q.1 = none ∧ d.base.get? q.1 = none := fun q hq => by
    obtain ⟨hq, hne⟩ := hN q hq
    refine ⟨hnb _ _ (fun z hz e1 => ?_) hne (G.nw q hq).1, (G.nw q hq).2.2, fresh_of_stays G.bl.stays (G.nw q hq).2.2⟩
    subst e1
    rcases kts_mem hz with y | y
    · exact (G.nw q hq).2.1 y
    · obtain ⟨_, o, ho, _⟩ := G.bl.frames.mem y
      rw [(G.nw q hq).2.2] at ho; cases ho
  have hen : (hideAll s.heap (e :: (env c d :: d.outer).filterMap (·.frame))).get? e = none := hideAll_none _ (.head _)
  refine wpAny_leaving_firstW (a0 := .ref t) K'.stack (funFrames_hide K'.frames hin) rfl (G.nw _ he).1 (fun b o hb => of_hideAll _ hb) hen rfl rfl rfl fun h' hL => ?_
  obtain ⟨k1, ⟨_, _, k2⟩, k3, k4⟩ := hL
  have R : RaisedL d.base g d.outer e N h' := ⟨_, _, st, sg, hl, k1, hen, k2, k3⟩
  exact k h' (raised_turn G.tn R) (turn_upto G.tn ((Heap.UpToSlots.of_keeps G.fr.keep).trans k4))
/-- raise LuaError(b'..') -/
theorem TrE.raise {x : List UInt8} {k : Nat} (hr : 2 ≤ d.room) (hs : autoParam (starEach [.Constant (.bytes x) k p3] (env c d) = [(false, eval (.Constant (.bytes x) k p3) (env c d))]) tacR) (hx : autoParam ((env c d).kindOf (Str.ofString "LuaError") = some .globalImplicit) tacR) :
    TrE c d σ (Leaves c d σ.news) (execs (.Raise (some (.Call (.Name (Str.ofString "LuaError") p1) [.Constant (.bytes x) k p3] [] p2)) Option.none pos :: rest) (env c d)) := by
  refine TrE.cons ?_
  intro s Q E H r
  rw [arm_exec_Raise]
  refine wpAny_bind (wpAny_standAt (raiseStmt_lua (c := c) (d := d) H.choose_spec.ok.handled ?_))
  refine wpAny_bind ?_
  have mk : Tr c d σ (eval (.Call (.Name (Str.ofString "LuaError") p1) [.Constant (.bytes x) k p3] [] p2) (env c d)) (fun r σ' => ∃ e t dx, r = .ref e ∧ (e, exObj t (some dx)) ∈ σ'.news ∧ (∀ p ∈ σ.news, p ∈ σ'.news ∧ p.1 ≠ e) ∧ σ'.m = σ.m) :=
    EP.callG (EP.glob (g_lua _) hx rfl) (k_lua _) (Args.cons (P₁ := fun _ σ' => σ = σ') (fun s Q E H k => Constant_bytes (k _ σ s.heap _ rfl H)) (by rintro v _ rfl; exact Args.nil (Tr.lua hr)) hs) hs (by rfl) rfl
  refine mk s _ E H ?_
  rintro v σ' h' tk' ⟨e, t, dx, rfl, hm, hN, -⟩ H'
  refine wpAny_bind (wpAny_standAt (wpAny_pure ⟨e, t, some dx, rfl, ?_, ?_, ?_⟩))
  · obtain ⟨g, G⟩ := H'; exact G.xh
  · obtain ⟨g, G⟩ := H'; exact (G.nw _ hm).1
  · exact r e h' tk' (leaves_of H' hm hN)
end
end Mine

namespace Mine
open PySem PySem.W PySem.Spec PySem.Calls PyProof.Rows
theorem fill__j_X4 : (PySem.Challenge.rw_nt0638_01, KK) = (PySem.Challenge.rw_nt0638_01, KK) := by k_fill; rfl
theorem b_lua (w : World) : ktsIn (KK w.params) 130 "BaseException" = true := by kts_isx
section
variable {c : FnS} {d : Dy} {σ : St} {rest body : List Stmt} {P : Flow → St → Prop} {pos p1 p2 p3 p4 : Pos} {kn : Nat} {m : Str → Option Value} {N : Led}
theorem caught_lua {s' : Shared} {e : Addr} {Q : Flow → Shared → Prop} {E : Value → Shared → Prop} (f : Flown c d m N e s') (hx : (env c d).kindOf (Str.ofString "LuaError") = some .globalImplicit) (k : ∀ h', Holds c d ⟨m, N⟩ h' → Q (.ret .none) { s' with heap := h' }) :
    wpAny (model PySem.Challenge.rw_nt0638_01.row.prog d.w) (Ar c d) (noteFrame (.ref e) (env c d)) (fun _ s₂ => wpAny (model PySem.Challenge.rw_nt0638_01.row.prog d.w) (Ar c d) (setFlight (.ref e) none) (fun _ s₃ =>
      wpAny (model PySem.Challenge.rw_nt0638_01.row.prog d.w) (Ar c d) (handleBy (.ref e) (env c d) [.ExceptHandler (some (.Name (Str.ofString "LuaError") p1)) none [.Return (some (.Constant .none kn p3)) p4] p2]) Q E s₃) E s₂) E s' := by
  obtain ⟨g, G, f⟩ := f
  refine el24 f.rs fun B a0 hB hBG hl hfl => ?_
  have hL : B.get? d.L = none := by
    obtain ⟨_, ⟨L', _, hf, hn', _⟩, _⟩ := hfl.2.2.1
    obtain rfl : d.L = L' := Option.some.inj hf
    exact hn'
  refine lua_elim d.w fun nm q bs sn sub ab col dd k0 k1 k2 k3 k5 hlk => ?_
  refine wpAny_looks_onW (Around.frames_deeper f.bl.stack) rfl hfl fun h₄ hheld₄ hsm₄ => ?_
  refine wpAny_landsW hheld₄ fun h₅ hheld hsm₅' => ?_
  have hsm₅ := hsm₄.trans hsm₅'
  obtain ⟨g₅, T₅, F₅, K₅⟩ := kts_ground f.bl f.fr hBG hheld.1 (f.up.trans hsm₅)
  have X₅ := f.ok.xb.keeps K₅.stays
  obtain ⟨ob, hob, hobc⟩ := hheld.there
  refine wpAny_handleBy_cons (codeAny_handlers_test (name_K F₅ X₅ (topRead_of (f.ok.tb.keeps K₅.stays)) (g_lua _) ?_ f.ok.kind hx (by decide))) (by intro q; cases q)
  refine wpAny_excMatches_sub_self (F₅.keep _ _ (X₅ _ _ hlk)) hob hobc (by decide) (codeAny_handlers_suite ?_)
  refine lands_againW hheld fun h₆ hfl₆ hsm₆ => ?_
  obtain ⟨g₆, T₆, F₆, K₆⟩ := kts_ground f.bl f.fr hBG hfl₆.1 ((f.up.trans hsm₅).trans hsm₆)
  have Nl : News g₆ d.L h₆ N := fun q hq => ⟨hfl₆.1 _ _ (hl q hq).1, (fun z => by have := (hl q hq).1; rw [z, hL] at this; cases this), T₆.none_ _ (kts_none f.fr.keep (hl q hq).2.1)⟩
  refine wpAny_execs_cons (wpAny_Return_some (Constant_none ?_))
  exact k h₆ ⟨g₆, f.ok, K₆, f.tn.trans T₆, f.dc.turn T₆, F₆, Nl⟩
/-- try: return .. except LuaError: return None, where nothing is raised -/
theorem Ex.tryOk {h₀ : ExceptHandler} {hs : List ExceptHandler} (h : Tr c d σ (execs body (env c d)) (fun f σ' => f ≠ .next ∧ P f σ')) : Tr c d σ (execs (.Try body (h₀ :: hs) [] [] pos :: rest) (env c d)) P := by
  intro s Q E H r
  refine wpAny_execs_cons (wpAny_Try_except (wpAny_mono (h s (fun f s₁ => f ≠ .next ∧ Q f s₁) (fun _ _ => False) H fun f σ' h' tk' hf H' => ⟨hf.1, r f σ' h' tk' hf.2 H'⟩) (fun f s₁ hf => ?_) fun _ _ z => z.elim))
  cases f with
  | next => exact absurd rfl hf.1
  | cont => exact hf.2
  | brk => exact hf.2
  | ret v => exact hf.2
theorem Ex.tryNo (h : TrE c d σ (Flown c d m N) (execs body (env c d))) (k : P (.ret .none) ⟨m, N⟩) (hx : autoParam ((env c d).kindOf (Str.ofString "LuaError") = some .globalImplicit) tacR) :
    Tr c d σ (execs (.Try body [.ExceptHandler (some (.Name (Str.ofString "LuaError") p1)) none [.Return (some (.Constant .none kn p3)) p4] p2] [] [] pos :: rest) (env c d)) P := by
  intro s Q E H r
  refine wpAny_execs_cons (wpAny_Try_except (h s _ _ H fun e h' tk' f => caught_lua f hx fun h2 H2 => ?_))
  exact r _ _ h2 tk' k H2
end
end Mine

namespace Mine
open PySem PySem.W PySem.Spec PySem.Calls PyProof.Rows
theorem fill__j_X5 : (PySem.Challenge.rw_nt0638_01, KK) = (PySem.Challenge.rw_nt0638_01, KK) := by k_fill; rfl
theorem ConA.mono {w : World} {f : Addr} {k : Nat} {args : PySem.Args} {news : Led} {P P' : Value → Led → Prop} (h : ConA w f k args news P) (m : ∀ v n', P v n' → P' v n') : ConA w f k args news P' :=
  fun c d σ A s R h1 h2 h3 h4 h5 h6 h7 h8 r => h c d σ A s R h1 h2 h3 h4 h5 h6 h7 h8 fun v σ' h' tk' p => r v σ' h' tk' (m _ _ p)
theorem power_o (w : World) {x b wd f h : Int} {t t' t2 : Tok} {news : Led} (W : Wd wd f h) (hx : -1073741824 < x ∧ x < 1073741824) (hne : powF x b f h ≠ none) : Con w 174 2 [.int x t, .int b t', .int wd t2] news (GO (powF x b f h) news) := by
  unfold powF at hne ⊢
  by_cases hb : 0 ≤ b
  · rw [if_pos hb]; exact (power_c w W hb hx).mono fun v n' q => q
  rw [if_neg hb] at hne ⊢
  by_cases h0 : x = 0
  · rw [if_pos h0] at hne; exact absurd rfl hne
  rw [if_neg h0]
  (refine' con_intro (binds := [(Str.ofString "a", .int x t), (Str.ofString "b", .int b t'), (Str.ofString "width", .int wd t2)]) ?ho ?hcd ?hb ?hl ?c1 ?c2 ?c3 ?c4 ?_; (case ho => k_is); (case hcd => k_is); (case hb => exact fun s _ => BindsTo.of_eq rfl); (case hl => exact locs rfl); (case c1 => exact rfl); (case c2 => exact rfl); (case c3 => exact rfl); (case c4 => decide)); rintro d rfl hrm
  refine Ex.if_ (TT.cmp EP.nameI EP.int cmp_lt) (fun _ => ?_) (fun z => absurd (Int.not_le.mp hb) z)
  refine Ex.if_ (TT.cmp EP.nameI EP.int cmp_eq) (fun z => absurd z h0) (fun _ => ?_)
  refine Ex.if_ (TT.or2 (TT.cmp EP.nameI EP.int cmp_eq) (fun _ => TT.cmp EP.nameI (EP.neg EP.int) cmp_eq)) (fun q => ?_) (fun q => ?_)
  · refine Ex.retB (R := OI _) (EP.ifexp (TT.or2 (TT.cmp EP.nameI EP.int cmp_eq) (fun _ => TT.cmp (EP.bin EP.nameI EP.int (op_mod (by decide))) EP.int cmp_eq)) (fun r => ?_) (fun r => ?_))
    · by_cases h1 : x = 1
      · rw [if_pos h1]; exact EP.int
      · rw [if_neg h1, if_pos (q.resolve_left h1), if_pos (r.resolve_left h1)]; exact EP.int
    · rw [if_neg (fun z => r (.inl z)), if_pos (q.resolve_left fun z => r (.inl z)), if_neg (fun z => r (.inr z))]; exact EP.neg EP.int
  · rw [if_neg (fun z => q (.inl z)), if_neg (fun z => q (.inr z))]; exact Ex.retB (R := IsI 0) EP.int
theorem power_e (w : World) {b : Int} {t t' : Tok} {v : Value} {news : Led} (hb : b < 0) : ConE w 174 3 [.int 0 t, .int b t', v] news := by
  (refine' conE_intro (binds := [(Str.ofString "a", .int 0 t), (Str.ofString "b", .int b t'), (Str.ofString "width", v)]) ?ho ?hcd ?hb ?hl ?c1 ?c2 ?c3 ?c4 ?_; (case ho => k_is); (case hcd => k_is); (case hb => exact fun s _ => BindsTo.of_eq rfl); (case hl => exact locs rfl); (case c1 => exact rfl); (case c2 => exact rfl); (case c3 => exact rfl); (case c4 => decide)); rintro d rfl hrm
  exact TrE.yes (TT.cmp EP.nameI EP.int cmp_lt) hb (TrE.yes (TT.cmp EP.nameI EP.int cmp_eq) rfl (TrE.raise (rm hrm rfl)))

noncomputable def IsB (x : List UInt8) (v : Value) : Prop := ∃ t, v = .bytes x.toArray t
theorem EP.bytes {c : FnS} {d : Dy} {σ : St} {x : List UInt8} {k : Nat} {pos : Pos} : EP c d σ (.Constant (.bytes x) k pos) (IsB x) := fun s _ _ H r => Constant_bytes (r _ σ s.heap _ ⟨⟨_, rfl⟩, rfl⟩ H)
theorem cmp_eqB {x y : List UInt8} : CmpOk .Eq (IsB x) (IsB y) (x = y) := by
  rintro w A s Q E _ _ ⟨t, rfl⟩ ⟨u, rfl⟩ k
  exact eq_bytes (k _ s.toks beq_iff_eq)
theorem cmp_neB {x y : List UInt8} : CmpOk .NotEq (IsB x) (IsB y) (x ≠ y) := by
  rintro w A s Q E _ _ ⟨t, rfl⟩ ⟨u, rfl⟩ k
  exact ne_bytes (k _ s.toks bne_iff_ne)
/-- the operators' names -/
noncomputable def bnm (op : Int) : List UInt8 := if op = 12 then [97, 100, 100] else if op = 13 then [115, 117, 98] else if op = 14 then [109, 117, 108] else if op = 15 then [100, 105, 118] else if op = 16 then [109, 111, 100] else if op = 17 then [112, 111, 119] else [117, 110, 109]
theorem op_fin {a : Int} (h : 12 ≤ a ∧ a ≤ 18) : ∃ i : Fin 7, a = 12 + ((i : Nat) : Int) :=
  ⟨⟨(a - 12).toNat, (Int.toNat_lt (Int.sub_nonneg_of_le h.1)).mpr (Int.lt_of_le_of_lt (Int.sub_le_sub_right h.2 12) (by decide))⟩, by dsimp only; rw [Int.toNat_of_nonneg (Int.sub_nonneg_of_le h.1), Int.add_comm, Int.sub_add_cancel]⟩
theorem bnm_inj {a b : Int} (ha : 12 ≤ a ∧ a ≤ 18) (hb : 12 ≤ b ∧ b ≤ 18) : bnm a = bnm b ↔ a = b := by
  obtain ⟨i, rfl⟩ := op_fin ha
  obtain ⟨j, rfl⟩ := op_fin hb
  clear ha hb
  revert i j
  decide
noncomputable def LimIn (lim : Addr) (wd : Int) (news : Led) : Prop := ∃ dl es n t, (lim, instObj 109 dl) ∈ news ∧ (dl, dictOf es n) ∈ news ∧ getL (Str.ofString "width") es = some (some (.int wd t))
theorem a_width (w : World) : AttrOk w 109 (Str.ofString "width") := ⟨by k_is, by k_is, by k_is⟩
theorem g_divide (w : World) : nsIn (KK w.params) mainGlobals (Str.ofString "divide") = some (some (.ref 167)) := by k_is
theorem k_divide (w : World) : keepIn (KK w.params) (.ref 167) = true := by k_is
theorem g_power (w : World) : nsIn (KK w.params) mainGlobals (Str.ofString "power") = some (some (.ref 174)) := by k_is
theorem k_power (w : World) : keepIn (KK w.params) (.ref 174) = true := by k_is
/-- op == b'..' for an operator's name -/
theorem TT.nm {c : FnS} {d : Dy} {σ : St} {op o2 : Int} {t : Tok} {x : List UInt8} {k : Nat} {pos p1 p2 : Pos} (hop : 12 ≤ op ∧ op ≤ 18) (hv : σ.m (Str.ofString "op") = some (.bytes (bnm op).toArray t)) (h2 : 12 ≤ o2 ∧ o2 ≤ 18) (hx : x = bnm o2) (hy : autoParam ((env c d).kindOf (Str.ofString "op") = some .local) tacR) :
    TT c d σ (.Compare (.Name (Str.ofString "op") p1) [.Eq] [.Constant (.bytes x) k p2] pos) (op = o2) :=
  TT.mono (TT.cmp (EP.mono (EP.name hv hy rfl) fun v e => (⟨t, e⟩ : IsB (bnm op) v)) EP.bytes cmp_eqB rfl) (by rw [hx]; exact bnm_inj hop h2)
theorem TT.nn {c : FnS} {d : Dy} {σ : St} {op o2 : Int} {t : Tok} {x : List UInt8} {k : Nat} {pos p1 p2 : Pos} (hop : 12 ≤ op ∧ op ≤ 18) (hv : σ.m (Str.ofString "op") = some (.bytes (bnm op).toArray t)) (h2 : 12 ≤ o2 ∧ o2 ≤ 18) (hx : x = bnm o2) (hy : autoParam ((env c d).kindOf (Str.ofString "op") = some .local) tacR) :
    TT c d σ (.Compare (.Name (Str.ofString "op") p1) [.NotEq] [.Constant (.bytes x) k p2] pos) (op ≠ o2) :=
  TT.mono (TT.cmp (EP.mono (EP.name hv hy rfl) fun v e => (⟨t, e⟩ : IsB (bnm op) v)) EP.bytes cmp_neB rfl) (by rw [hx]; exact not_congr (bnm_inj hop h2))
end Mine

namespace Mine
open PySem PySem.W PySem.Spec PySem.Calls PyProof.Rows
theorem fill__j_X6 : (PySem.Challenge.rw_nt0638_01, KK) = (PySem.Challenge.rw_nt0638_01, KK) := by k_fill; rfl
theorem op_left {op : Int} (hop : 12 ≤ op ∧ op ≤ 18) (h1 : op ≠ 12) (h2 : op ≠ 13) (h3 : op ≠ 14) (h4 : op ≠ 18) (h5 : op ≠ 17) : op = 15 ∨ op = 16 := by
  obtain ⟨i, rfl⟩ := op_fin hop
  clear hop
  revert i
  decide
theorem arith_c (w : World) {op x b wd f h : Int} {t t1 t2 : Tok} {lim : Addr} {news : Led} (W : Wd wd f h) (L : LimIn lim wd news) (hop : 12 ≤ op ∧ op ≤ 18) (hx : -1073741824 < x ∧ x < 1073741824) (hb : -1073741824 < b ∧ b < 1073741824) (hne : arF op x b f h ≠ none) :
    Con w 181 4 [.bytes (bnm op).toArray t, .int x t1, .int b t2, .ref lim] news (GO (arF op x b f h) news) := by
  (refine' con_intro (binds := [(Str.ofString "op", .bytes (bnm op).toArray t), (Str.ofString "a", .int x t1), (Str.ofString "b", .int b t2), (Str.ofString "limits", .ref lim)]) ?ho ?hcd ?hb ?hl ?c1 ?c2 ?c3 ?c4 ?_; (case ho => k_is); (case hcd => k_is); (case hb => exact fun s _ => BindsTo.of_eq rfl); (case hl => exact locs rfl); (case c1 => exact rfl); (case c2 => exact rfl); (case c3 => exact rfl); (case c4 => decide)); rintro d rfl hrm
  obtain ⟨dl, es, n, tw, l1, l2, l3⟩ := L
  unfold arF at hne ⊢
  refine Ex.assignI (i := wd) (EP.mono (EP.attr (a_width _) EP.name l1 l2 l3 rfl) fun v e => ⟨_, e⟩) fun t3 => ?_
  refine Ex.if_ (TT.nm (o2 := 12) hop rfl (by decide) (by rfl)) (fun e => ?_) (fun e12 => ?_)
  · rw [if_pos e]; exact Ex.retB (R := IsI _) (EP.wrap W (rm hrm rfl) (EP.bin EP.nameI EP.nameI op_add) rfl)
  rw [if_neg e12] at hne ⊢
  refine Ex.if_ (TT.nm (o2 := 13) hop rfl (by decide) (by rfl)) (fun e => ?_) (fun e13 => ?_)
  · rw [if_pos e]; exact Ex.retB (R := IsI _) (EP.wrap W (rm hrm rfl) (EP.bin EP.nameI EP.nameI op_sub) rfl)
  rw [if_neg e13] at hne ⊢
  refine Ex.if_ (TT.nm (o2 := 14) hop rfl (by decide) (by rfl)) (fun e => ?_) (fun e14 => ?_)
  · rw [if_pos e]; exact Ex.retB (R := IsI _) (EP.wrap W (rm hrm rfl) (EP.bin EP.nameI EP.nameI (op_mul hb)) rfl)
  rw [if_neg e14] at hne ⊢
  refine Ex.if_ (TT.nm (o2 := 18) hop rfl (by decide) (by rfl)) (fun e => ?_) (fun e18 => ?_)
  · rw [if_pos e]; exact Ex.retB (R := IsI _) (EP.wrap W (rm hrm rfl) (EP.neg EP.nameI) rfl)
  rw [if_neg e18] at hne ⊢
  refine Ex.if_ (TT.nm (o2 := 17) hop rfl (by decide) (by rfl)) (fun e => ?_) (fun e17 => ?_)
  · rw [if_pos e] at hne ⊢
    exact Ex.retB (R := OI _) (EP.callP (g_power _) (k_power _) (k := 2) (rm hrm rfl) (Args.v EP.name (Args.v EP.name (Args.v EP.name (Args.nil ⟨rfl, power_o d.w W hx hne⟩)))))
  rw [if_neg e17] at hne ⊢
  refine Ex.if_ (TT.and2 (TT.nn (o2 := 15) hop rfl (by decide) (by rfl)) fun _ => TT.nn (o2 := 16) hop rfl (by decide) (by rfl)) (fun e => ((op_left hop e12 e13 e14 e18 e17).elim e.1 e.2).elim) (fun e1 => ?_)
  refine Ex.if_ (TT.cmp EP.nameI EP.int cmp_eq) (fun e => absurd rfl ((if_pos e ▸ hne : none ≠ none))) (fun e2 => ?_)
  rw [if_neg e2]
  refine Ex.if_ (TT.nm (o2 := 15) hop rfl (by decide) (by rfl)) (fun e => ?_) (fun e => ?_)
  · rw [if_pos e]; exact Ex.retB (R := IsI _) (EP.wrap W (rm hrm rfl) (EP.callP (R := IsI (divF x b)) (g_divide _) (k_divide _) (k := 1) (rm hrm rfl) (Args.v EP.name (Args.v EP.name (Args.nil ⟨rfl, divide_c d.w e2 hb⟩)))) rfl)
  · rw [if_neg e]; exact Ex.retB (R := IsI _) (EP.wrap W (rm hrm rfl) (EP.bin EP.nameI EP.nameI (op_fmod e2)) rfl)
noncomputable def NoO (P : Prop) (o : Option Int) : Prop := o = none → P
theorem NoO.ite {P p : Prop} [Decidable p] {a b : Option Int} (h1 : p → NoO P a) (h2 : ¬ p → NoO P b) : NoO P (if p then a else b) := by
  split
  · exact h1 ‹_›
  · exact h2 ‹_›
theorem NoO.some {P : Prop} {j : Int} : NoO P (some j) := fun e => (nomatch e)
theorem arF_none {op x b f h : Int} (hop : 12 ≤ op ∧ op ≤ 18) : arF op x b f h = none → (op = 17 ∧ b < 0 ∧ x = 0) ∨ ((op = 15 ∨ op = 16) ∧ b = 0) := by
  show NoO _ _
  unfold arF powF
  exact .ite (fun _ => .some) fun h12 => .ite (fun _ => .some) fun h13 => .ite (fun _ => .some) fun h14 => .ite (fun _ => .some) fun h18 => .ite (fun h17 => .ite (fun _ => .some) fun hb => .ite (fun hx _ => .inl ⟨h17, Int.not_le.mp hb, hx⟩) fun _ => .ite (fun _ => .some) fun _ => .ite (fun _ => .some) fun _ => .some) fun h17 => .ite (fun hb _ => .inr ⟨op_left hop h12 h13 h14 h18 h17, hb⟩) fun _ => .ite (fun _ => .some) fun _ => .some
theorem arith_e (w : World) {op x b wd f h : Int} {t t1 t2 : Tok} {lim : Addr} {news : Led} (L : LimIn lim wd news) (hop : 12 ≤ op ∧ op ≤ 18) (hne : arF op x b f h = none) : ConE w 181 4 [.bytes (bnm op).toArray t, .int x t1, .int b t2, .ref lim] news := by
  have hc := arF_none hop hne
  have ne : ∀ k : Int, 17 ≠ k → 15 ≠ k → 16 ≠ k → op ≠ k := fun k a1 a2 a3 z => hc.elim (fun y => a1 (y.1.symm.trans z)) fun y => y.1.elim (fun y => a2 (y.symm.trans z)) fun y => a3 (y.symm.trans z)
  (refine' conE_intro (binds := [(Str.ofString "op", .bytes (bnm op).toArray t), (Str.ofString "a", .int x t1), (Str.ofString "b", .int b t2), (Str.ofString "limits", .ref lim)]) ?ho ?hcd ?hb ?hl ?c1 ?c2 ?c3 ?c4 ?_; (case ho => k_is); (case hcd => k_is); (case hb => exact fun s _ => BindsTo.of_eq rfl); (case hl => exact locs rfl); (case c1 => exact rfl); (case c2 => exact rfl); (case c3 => exact rfl); (case c4 => decide)); rintro d rfl hrm
  obtain ⟨dl, es, n, tw, l1, l2, l3⟩ := L
  refine TrE.assignI (i := wd) (EP.mono (EP.attr (a_width _) EP.name l1 l2 l3 rfl) fun v e => ⟨_, e⟩) fun t3 => ?_
  refine TrE.no (TT.nm (o2 := 12) hop rfl (by decide) (by rfl)) (ne 12 (by decide) (by decide) (by decide)) (TrE.no (TT.nm (o2 := 13) hop rfl (by decide) (by rfl)) (ne 13 (by decide) (by decide) (by decide)) (TrE.no (TT.nm (o2 := 14) hop rfl (by decide) (by rfl)) (ne 14 (by decide) (by decide) (by decide)) (TrE.no (TT.nm (o2 := 18) hop rfl (by decide) (by rfl)) (ne 18 (by decide) (by decide) (by decide)) ?_)))
  rcases hc with ⟨e, h1, rfl⟩ | ⟨e, h1⟩
  · exact TrE.yes (TT.nm (o2 := 17) hop rfl (by decide) (by rfl)) e (TrE.ret (TrE.callG (EP.glob (g_power _)) (k_power _) (Args.v EP.name (Args.v EP.name (Args.v EP.name (Args.nil (TrE.mono (TrE.call (power_e d.w h1) (rm hrm rfl)) fun e s u => u.leaves)))))))
  · exact TrE.no (TT.nm (o2 := 17) hop rfl (by decide) (by rfl)) (fun z => e.elim (fun y => absurd (y.symm.trans z) (by decide)) fun y => absurd (y.symm.trans z) (by decide)) (TrE.no (TT.and2 (TT.nn (o2 := 15) hop rfl (by decide) (by rfl)) fun _ => TT.nn (o2 := 16) hop rfl (by decide) (by rfl)) (fun z => e.elim z.1 z.2) (TrE.yes (TT.cmp EP.nameI EP.int cmp_eq) h1 (TrE.raise (rm hrm rfl))))
end Mine

namespace Mine
open PySem PySem.W PySem.Spec PySem.Calls PyProof.Rows
theorem fill__j_X7 : (PySem.Challenge.rw_nt0638_01, KK) = (PySem.Challenge.rw_nt0638_01, KK) := by k_fill; rfl
noncomputable def foF (op a b f h : Int) : Option Int := if 12 ≤ op ∧ op ≤ 18 then arF op a b f h else none
noncomputable def keyOk (e : DictEntry) : Bool := match e.key with | .int k _ => e.hash == hashInt k && decide (12 ≤ k ∧ k ≤ 18) | _ => false
noncomputable def valOk (es : Array DictEntry) (i : Nat) : Bool := match findBy Value.isInt es (12 + (i : Int)) with | some (.bytes x _) => x.toList == bnm (12 + (i : Int)) | _ => false
theorem folded_look (w : World) : ∃ es n, (KK w.params).lookup 182 = some { cls := .type "dict", data := .dict es n } ∧ es.toList.all keyOk = true ∧ (List.range 7).all (valOk es) = true := ⟨_, _, by k_is, by rfl, by rfl⟩
/-- the table FOLDED -/
theorem folded_map (w : World) : ∃ fo : Int → Option Value, (∀ h, (KK w.params).In h → h.MapOf (intKind PySem.Challenge.rw_nt0638_01.row.prog w) 182 fo) ∧ (∀ op, ¬ (12 ≤ op ∧ op ≤ 18) → fo op = none) ∧ ∀ op, 12 ≤ op ∧ op ≤ 18 → ∃ t, fo op = some (.bytes (bnm op).toArray t) := by
  obtain ⟨es, n, hl, hk, hv⟩ := folded_look w
  refine ⟨findBy Value.isInt es, fun h X => ⟨_, es, n, X _ _ hl, ⟨rfl, rfl, rfl⟩, rfl, fun e he => ?_, fun _ => rfl⟩, fun op hop => ?_, fun op hop => ?_⟩
  · have := List.all_eq_true.mp hk e (Array.mem_toList_iff.mpr he)
    unfold keyOk at this
    cases hq : e.key <;> rw [hq] at this <;> try cases this
    rename_i k t
    simp only [Bool.and_eq_true, beq_iff_eq] at this
    exact ⟨k, intKind_is _ _ _ _, this.1⟩
  · unfold findBy
    rw [Array.find?_eq_none.mpr fun e he z => ?_]; rfl
    obtain ⟨t, ht⟩ := Value.isInt_shape z
    have := List.all_eq_true.mp hk e (Array.mem_toList_iff.mpr he)
    unfold keyOk at this
    rw [ht] at this
    simp only [Bool.and_eq_true, decide_eq_true_eq] at this
    exact hop this.2
  · obtain ⟨j, hq⟩ := op_fin hop
    have := List.all_eq_true.mp hv j (List.mem_range.mpr j.2)
    unfold valOk at this
    rw [← hq] at this
    split at this
    · rename_i x t e
      exact ⟨t, by rw [e, ← beq_iff_eq.mp this, Array.toArray_toList]⟩
    · cases this
theorem g_folded (w : World) : nsIn (KK w.params) mainGlobals (Str.ofString "FOLDED") = some (some (.ref 182)) := by k_is
theorem g_arith (w : World) : nsIn (KK w.params) mainGlobals (Str.ofString "arith") = some (some (.ref 181)) := by k_is
theorem k_arith (w : World) : keepIn (KK w.params) (.ref 181) = true := by k_is
section
variable {c : FnS} {d : Dy} {σ : St} {e ie : PySem.Expr} {pos : Pos} {op : Int}
theorem TT.notFolded (he : EP c d σ e (IsI op)) (ho : EP c d σ ie (fun v => v = .ref 182)) (hm : autoParam (behindInMarks .NotIn ie = false) tacR) : TT c d σ (.Compare e [.NotIn] [ie] pos) (¬ (12 ≤ op ∧ op ≤ 18)) := by
  obtain ⟨fo, f1, f2, f3⟩ := folded_map d.w
  intro s Q E H k
  refine wpAny_isTrue_Compare1 (he s _ E H ?_) hm
  rintro _ σ' h' tk' ⟨⟨t, rfl⟩, rfl⟩ H'
  refine ho { s with heap := h', toks := tk' } _ E H' ?_
  rintro _ σ' h2 tk2 ⟨rfl, rfl⟩ H2
  obtain ⟨g, G⟩ := id H2
  refine wpAny_notIn_of (intKind_is _ _ op t) (by rfl) (f1 _ G.xh) (wpAny_truthy_bool (k _ σ h2 _ ⟨?_, rfl⟩ H2))
  by_cases hop : 12 ≤ op ∧ op ≤ 18
  · obtain ⟨t, e⟩ := f3 op hop; rw [e]; simp [hop]
  · rw [f2 op hop]; simp [hop]
theorem EP.nameOf (he : EP c d σ e (fun v => v = .ref 182)) (hi : EP c d σ ie (IsI op)) (hop : 12 ≤ op ∧ op ≤ 18) (hs : ∀ o i, subscripted ie false o i = operate [o, i] (getItem o i) := by exact fun _ _ => rfl) : EP c d σ (.Subscript e ie pos) (IsB (bnm op)) := by
  obtain ⟨fo, f1, f2, f3⟩ := folded_map d.w
  obtain ⟨t, ht⟩ := f3 op hop
  refine Tr.sub he ?_
  rintro _ σ' ⟨rfl, rfl⟩
  refine Tr.mono hi ?_
  rintro _ σ' ⟨⟨u, rfl⟩, rfl⟩
  intro s Q E H r
  obtain ⟨g, G⟩ := id H
  have M := f1 _ G.xh
  exact tail_any M.typeIs slot_dict_getitem.lookup (wpAny_getItem_of (intKind_is _ _ op u) M ht (r _ σ s.heap _ ⟨⟨t, rfl⟩, rfl⟩ H)) (hs _ _)
end
theorem folded_c (w : World) {op x b wd f h : Int} {t t1 t2 : Tok} {lim : Addr} {news : Led} (W : Wd wd f h) (L : LimIn lim wd news) (hx : -1073741824 < x ∧ x < 1073741824) (hb : -1073741824 < b ∧ b < 1073741824) :
    Con w 203 5 [.int op t, .int x t1, .int b t2, .ref lim] news (GO (foF op x b f h) news) := by
  (refine' con_intro (binds := [(Str.ofString "op", .int op t), (Str.ofString "one", .int x t1), (Str.ofString "other", .int b t2), (Str.ofString "limits", .ref lim)]) ?ho ?hcd ?hb ?hl ?c1 ?c2 ?c3 ?c4 ?_; (case ho => k_is); (case hcd => k_is); (case hb => exact fun s _ => BindsTo.of_eq rfl); (case hl => exact locs rfl); (case c1 => exact rfl); (case c2 => exact rfl); (case c3 => exact rfl); (case c4 => decide)); rintro d rfl hrm
  unfold foF
  refine Ex.if_ (TT.notFolded EP.nameI (EP.glob (g_folded _))) (fun z => ?_) (fun hop => ?_)
  · rw [if_neg z]; exact Ex.retB (R := OI none) EP.none
  replace hop := Decidable.not_not.mp hop
  rw [if_pos hop]
  by_cases hne : arF op x b f h = none
  · rw [hne]
    refine Ex.tryNo (m := fun y => ([(Str.ofString "op", .int op t), (Str.ofString "one", .int x t1), (Str.ofString "other", .int b t2), (Str.ofString "limits", .ref lim)] : List (Str × Value)).reverse.lookup y) (N := news) (TrE.ret (TrE.callG (EP.glob (g_arith _)) (k_arith _) (Args.p (EP.nameOf (EP.glob (g_folded _)) EP.nameI hop) ?_))) ⟨rfl, rfl⟩
    rintro _ ⟨t3, rfl⟩
    exact Args.v EP.name (Args.v EP.name (Args.v EP.name (Args.nil (TrE.call (arith_e d.w L hop hne) (rm hrm rfl)))))
  · refine Ex.tryOk (Ex.ret (Tr.mono (EP.callP (R := OI (arF op x b f h)) (g_arith _) (k_arith _) (k := 4) (rm hrm rfl) (Args.p (EP.nameOf (EP.glob (g_folded _)) EP.nameI hop) ?_)) fun v σ' q => ⟨Flow.noConfusion, q.1, congrArg St.news q.2⟩))
    rintro _ ⟨t3, rfl⟩
    exact Args.v EP.name (Args.v EP.name (Args.v EP.name (Args.nil ⟨rfl, arith_c d.w W L hop hx hb hne⟩)))
end Mine

namespace Mine
open PySem PySem.W PySem.Spec PySem.Calls PyProof.Rows
theorem fill__j_X8 : (PySem.Challenge.rw_nt0638_01, KK) = (PySem.Challenge.rw_nt0638_01, KK) := by k_fill; rfl
section
variable {c : FnS} {d : Dy} {σ : St} {P : Flow → St → Prop} {PV : Value → St → Prop} {PW : Value → Led → Prop} {rest : List Stmt} {elts es : List PySem.Expr} {pos tp vp : Pos} {tk vk : Nat} {e o : PySem.Expr} {ap : Pos} {x dx C fa : Addr} {name : Str} {vs : List Value} {k : Nat}
/-- what a method call looks up -/
structure MethOk (w : World) (C : Addr) (name : Str) (f : Addr) : Prop where
  ga : findIn (KK w.params) (.ref C) "__getattribute__" = some (some (.builtin "object.__getattribute__"))
  gt : findIn (KK w.params) (.ref C) "__getattr__" = some none
  fi : findIn (KK w.params) (.ref C) name = some (some (.ref f))
  ty : typeIn (KK w.params) (.ref f) = some (.type "function")
  kp : keepIn (KK w.params) (.ref f) = true
variable {des : List DictEntry} {dn : Nat}
theorem Tr.getMethod {pl : Sem Bool} {PM : Value × List Value → St → Prop} (M : MethOk d.w C name fa) (hx : (x, instObj C dx) ∈ σ.news) (hd : (dx, dictOf des dn) ∈ σ.news) (hl : getL name des = some Option.none) (k : PM (.ref fa, [.ref x]) σ) : Tr c d σ (PySem.getMethod (.ref x) name pl) PM := by
  intro s Q E H r
  obtain ⟨g, G⟩ := id H
  refine method_fn G.xh (InstAt.of_news G.nw hx hd) M.ga M.gt M.fi M.ty ?_ (r _ σ s.heap s.toks k H)
  show Option.map _ (getL name des) = _
  rw [hl]; rfl
/-- o.name(e, ..) -/
theorem EP.callM (M : MethOk d.w C name fa) (ho : EP c d σ o (fun u => u = .ref x)) (hx : (x, instObj C dx) ∈ σ.news) (hd : (dx, dictOf des dn) ∈ σ.news) (hl : getL name des = some Option.none) (hr : k ≤ d.room)
    (ha : Args c d σ pos (e :: es) (fun vs σ' => σ = σ' ∧ Con d.w fa k (.ref x :: vs) σ.news PW)) (hs : autoParam (starEach (e :: es) (env c d) = (false, eval e (env c d)) :: starEach es (env c d)) tacR) (hp : autoParam ((backTo pos (starEach es (env c d))).any (·.1) = false) tacR)
    (hc : ∃ pl : Sem Bool, eval (.Call (.Attribute o name ap) (e :: es) [] pos) (env c d) = (do
      let ov ← eval o (env c d)
      standAt ap.atName
      let (f, first) ← holding [ov] (PySem.getMethod ov name pl)
      callWith pos f first (backTo pos (starEach (e :: es) (env c d))) (backToKw pos (keywordEach [] (env c d)))) := by exact ⟨_, rfl⟩) : Tr c d σ (eval (.Call (.Attribute o name ap) (e :: es) [] pos) (env c d)) (fun r σ' => PW r σ'.news ∧ σ'.m = σ.m) := by
  obtain ⟨pl, hc⟩ := hc
  intro s Q E H r
  refine methodCall_KW (pl := pl) (ho s _ E H ?_) hc
  rintro _ σ' h' tk' ⟨rfl, rfl⟩ H'
  refine Tr.getMethod (PM := fun p σ' => p = (.ref fa, [.ref x]) ∧ σ = σ') M hx hd hl ⟨rfl, rfl⟩ { s with heap := h', toks := tk' } _ E H' ?_
  rintro _ σ' h2 tk2 ⟨rfl, rfl⟩ H2
  obtain ⟨g, G⟩ := id H2
  refine callWith_K (first := [.ref x]) G.x M.kp ?_ hs hp
  refine ha { s with heap := h2, toks := tk2 } _ E H2 ?_
  rintro vs σ3 h3 tk3 ⟨rfl, C⟩ H3
  obtain ⟨g3, G3⟩ := id H3
  exact ⟨G3.xh, Tr.call C hr { s with heap := h3, toks := tk3 } Q E H3 r⟩
theorem EP.callM0 {R : Value → Prop} (M : MethOk d.w C name fa) (ho : EP c d σ o (fun u => u = .ref x)) (hx : (x, instObj C dx) ∈ σ.news) (hd : (dx, dictOf des dn) ∈ σ.news) (hl : getL name des = some Option.none) (hr : k ≤ d.room)
    (hC : Con d.w fa k [.ref x] σ.news (fun v n' => R v ∧ σ.news = n')) (hc : ∃ pl : Sem Bool, eval (.Call (.Attribute o name ap) [] [] pos) (env c d) = (do
      let ov ← eval o (env c d)
      standAt ap.atName
      let (f, first) ← holding [ov] (PySem.getMethod ov name pl)
      callWith pos f first (backTo pos (starEach [] (env c d))) (backToKw pos (keywordEach [] (env c d)))) := by exact ⟨_, rfl⟩) : EP c d σ (.Call (.Attribute o name ap) [] [] pos) R := by
  obtain ⟨pl, hc⟩ := hc
  intro s Q E H r
  refine methodCall_KW (pl := pl) (ho s _ E H ?_) hc
  rintro _ σ' h' tk' ⟨rfl, rfl⟩ H'
  refine Tr.getMethod (PM := fun p σ' => p = (.ref fa, [.ref x]) ∧ σ = σ') M hx hd hl ⟨rfl, rfl⟩ { s with heap := h', toks := tk' } _ E H' ?_
  rintro _ σ' h2 tk2 ⟨rfl, rfl⟩ H2
  obtain ⟨g, G⟩ := id H2
  refine callWith_K0 (first := [.ref x]) G.xh M.kp ?_
  refine Tr.call hC hr { s with heap := h2, toks := tk2 } Q E H2 ?_
  rintro v ⟨m3, n3⟩ h3 tk3 ⟨⟨hv, rfl⟩, rfl⟩ H3
  exact r v ⟨σ.m, σ.news⟩ h3 tk3 ⟨hv, rfl⟩ H3
/-- a call of a class that has an __init__ of its own -/
theorem Tr.make {kw : List (Str × Value)} (hm : makesIn (KK d.w.params) C = true) (hi : findIn (KK d.w.params) (.ref C) "__init__" = some (some (.ref fa))) (hf : isFn (KK d.w.params) (.ref fa) = true) (hr : k + 1 ≤ d.room)
    (hC : ∀ x dx, (∀ p ∈ σ.news, p.1 < dx) → dx < x → ConA d.w fa k ⟨.ref x :: vs, kw⟩ ((x, instObj C dx) :: (dx, dictOf [] 0) :: σ.news) (fun r n' => r = .none ∧ PW (.ref x) n')) : Tr c d σ (PySem.call (.ref C) vs kw) (fun v σ' => PW v σ'.news ∧ σ'.m = σ.m) := by
  rintro s Q E ⟨g, G⟩ r
  refine call_cls G.fr G.x G.nw hm hi hf fun x dx h' F' N' l1 l2 => ?_
  refine hC x dx l1 l2 c d ⟨σ.m, (x, instObj C dx) :: (dx, dictOf [] 0) :: σ.news⟩ _ { s with heap := h' } _ rfl rfl (Around.frames_deeper G.bl.stack) G.ok.handled G.ok.guards ?_ ?_ (G.to F' N') ?_
  · exact room_e hr G.ok.depth
  · exact room_m hr G.ok.units
  · rintro r' σ' h2 tk2 ⟨rfl, hp⟩ hmm H2
    exact ⟨rfl, r _ σ' h2 tk2 ⟨hp, hmm⟩ H2⟩
end
end Mine

namespace Mine
open PySem PySem.W PySem.Spec PySem.Calls PyProof.Rows
theorem fill__j_X9 : (PySem.Challenge.rw_nt0638_01, KK) = (PySem.Challenge.rw_nt0638_01, KK) := by k_fill; rfl
noncomputable def six : List Str := [Str.ofString "kind", Str.ofString "info", Str.ofString "aux", Str.ofString "number", Str.ofString "t", Str.ofString "f"]
theorem i_kind : Str.ofString "kind" ∈ six := .head _
theorem i_info : Str.ofString "info" ∈ six := .tail _ (.head _)
theorem i_aux : Str.ofString "aux" ∈ six := .tail _ (.tail _ (.head _))
theorem i_number : Str.ofString "number" ∈ six := .tail _ (.tail _ (.tail _ (.head _)))
theorem i_t : Str.ofString "t" ∈ six := .tail _ (.tail _ (.tail _ (.tail _ (.head _))))
theorem i_f : Str.ofString "f" ∈ six := .tail _ (.tail _ (.tail _ (.tail _ (.tail _ (.head _)))))
noncomputable def setF (q : Str → Int) (x : Str) (i : Int) : Str → Int := fun y => if y = x then i else q y
/-- an ExpDesc on the ledger; of its fields those of S are known -/
structure ExpS (x dx : Addr) (q : Str → Int) (S : List Str) (len : Nat) (news : Led) : Prop where
  ne : x ≠ dx
  ex : ∃ es n, (x, instObj 73 dx) ∈ news ∧ (dx, dictOf es n) ∈ news ∧ es.length ≤ len ∧ es.any (·.refKey) = false ∧ (∀ y, y ∉ six → getL y es = some none) ∧ ∀ y ∈ S, ∃ t, getL y es = some (some (.int (q y) t))
noncomputable abbrev ExpAt (x dx : Addr) (q : Str → Int) (news : Led) : Prop := ExpS x dx q six 6 news
theorem ExpS.keep {x dx : Addr} {q : Str → Int} {S : List Str} {len : Nat} {news news' : Led} {as : List Addr} (E : ExpS x dx q S len news) (k : Keep as news news') (hx : x ∉ as) (hd : dx ∉ as) : ExpS x dx q S len news' := by
  obtain ⟨ne, es, n, h1, h2, r⟩ := E
  exact ⟨ne, es, n, k _ h1 hx, k _ h2 hd, r⟩
theorem ExpS.sub {x dx : Addr} {q q' : Str → Int} {S S' : List Str} {len : Nat} {news : Led} (E : ExpS x dx q S len news) (h : ∀ y ∈ S', y ∈ S ∧ q' y = q y) : ExpS x dx q' S' len news := by
  obtain ⟨ne, es, n, h1, h2, h3, h4, h5, h6⟩ := E
  exact ⟨ne, es, n, h1, h2, h3, h4, h5, fun y hy => by rw [(h y hy).2]; exact h6 y (h y hy).1⟩
theorem getL_some {name : Str} {es : List DictEntry} (h : es.any (·.refKey) = false) : (getL name es).isSome = true := by
  unfold getL
  split
  · rfl
  · rw [h]; rfl
theorem getL_find {name : Str} {u : Value} {es : List DictEntry} (h : getL name es = some (some u)) : (es.find? (·.key.isStr name)).isSome = true := by
  unfold getL at h
  split at h
  · rename_i e' he; rw [he]; rfl
  · split at h <;> cases h
theorem putL_len_in {name : Str} {hsh : Int} {k v : Value} : ∀ {es : List DictEntry}, (es.find? (·.key.isStr name)).isSome = true → (putL name hsh k v es).length = es.length
  | [], h => nomatch h
  | e :: r, h => by
    unfold putL
    by_cases hk : e.key.isStr name = true
    · rw [if_pos hk]; rfl
    · rw [if_neg hk, List.length_cons, List.length_cons]
      rw [Bool.not_eq_true] at hk
      refine congrArg (· + 1) (putL_len_in ?_)
      rw [List.find?_cons, hk] at h
      exact h
theorem e_set (w : World) {name : Str} (h : name ∈ six) : SetOk w 73 name := by
  have f := fun n => SetOk.mk (w := w) (C := 73) (name := n) (by k_is) (by k_is)
  have g : hasDictIn (KK w.params) 73 = true := by k_is
  simp only [six, List.mem_cons, List.not_mem_nil, or_false] at h
  rcases h with rfl | rfl | rfl | rfl | rfl | rfl
  · exact f _ (by k_is) g
  · exact f _ (by k_is) g
  · exact f _ (by k_is) g
  · exact f _ (by k_is) g
  · exact f _ (by k_is) g
  · exact f _ (by k_is) g
theorem e_get (w : World) {name : Str} (h : name ∈ six) : AttrOk w 73 name := by
  have g : hasDictIn (KK w.params) 73 = true := by k_is
  simp only [six, List.mem_cons, List.not_mem_nil, or_false] at h
  rcases h with rfl | rfl | rfl | rfl | rfl | rfl
  · exact ⟨by k_is, g, by k_is⟩
  · exact ⟨by k_is, g, by k_is⟩
  · exact ⟨by k_is, g, by k_is⟩
  · exact ⟨by k_is, g, by k_is⟩
  · exact ⟨by k_is, g, by k_is⟩
  · exact ⟨by k_is, g, by k_is⟩
section
variable {c : FnS} {d : Dy} {σ : St} {P : Flow → St → Prop} {PU : Unit → St → Prop} {rest : List Stmt} {e o : PySem.Expr} {pos p2 : Pos} {x dx : Addr} {q : Str → Int} {S : List Str} {len len' : Nat} {name : Str} {i : Int} {t : Tok} {v : Value}
theorem Tr.setF (E : ExpS x dx q S len σ.news) (hlen : len ≤ 900) (hn : name ∈ six) (hl' : len + 1 ≤ len' ∨ (name ∈ S ∧ len ≤ len')) (k : ∀ n', ExpS x dx (Mine.setF q name i) (name :: S) len' n' → Keep [dx] σ.news n' → PU () ⟨σ.m, n'⟩) : Tr c d σ (PySem.setAttr (.ref x) name (.int i t)) PU := by
  obtain ⟨ne, es, n, h1, h2, h3, h4, h5, h6⟩ := E
  refine Tr.setAttr (e_set _ hn) h1 ne h2 (getL_some h4) (Nat.le_trans h3 hlen) fun h t' => k _ ⟨ne, _, _, .tail _ (mem_rest h1 ne), .head _, ?_, (putL_any _ _ _ _ _).trans h4, fun y hy => ?_, fun y hy => ?_⟩ (keep_put (.head _))
  · rcases hl' with hl' | ⟨hm, hl'⟩
    · exact Nat.le_trans putL_len (Nat.le_trans (Nat.succ_le_succ h3) hl')
    · obtain ⟨t2, e2⟩ := h6 name hm
      rw [putL_len_in (getL_find e2)]; exact Nat.le_trans h3 hl'
  · rw [getL_put_other (show name ≠ y from fun z => hy (z ▸ hn))]; exact h5 y hy
  · unfold Mine.setF
    by_cases z : y = name
    · subst z; rw [if_pos rfl]; exact ⟨_, getL_put_same⟩
    · rw [if_neg z, getL_put_other (Ne.symm z)]
      exact h6 y ((List.mem_cons.mp hy).resolve_left z)
/-- x.name = e -/
theorem Ex.setF (E : ExpS x dx q S len σ.news) (hlen : len ≤ 900) (hn : name ∈ six) (hl' : len + 1 ≤ len' ∨ (name ∈ S ∧ len ≤ len')) (he : EP c d σ e (IsI i)) (ho : EP c d σ o (fun u => u = .ref x)) (k : ∀ n', ExpS x dx (Mine.setF q name i) (name :: S) len' n' → Keep [dx] σ.news n' → Tr c d ⟨σ.m, n'⟩ (execs rest (env c d)) P)
    (hs : autoParam (swapsWith e (some (.Attribute o name p2)) pos.line (env c d) = Pure.pure false) tacR) : Tr c d σ (execs (.Assign [.Attribute o name p2] e pos :: rest) (env c d)) P :=
  Ex.attr he ho (by rintro v ⟨t, rfl⟩; exact Tr.setF E hlen hn hl' k) hs
theorem EP.fldV (E : ExpS x dx q S len σ.news) (hn : name ∈ six) (hS : name ∈ S) (ho : EP c d σ o (fun u => u = .ref x)) (hc : autoParam (eval (.Attribute o name pos) (env c d) = (do let v ← eval o (env c d); standAt pos.atName; let r ← holding [v] (PySem.getAttr v name true); letTemporaryGo o v r; Pure.pure r)) tacR) : ∃ t, EP c d σ (.Attribute o name pos) (fun u => u = .int (q name) t) := by
  obtain ⟨ne, es, n, h1, h2, h3, h4, h5, h6⟩ := E
  obtain ⟨t, ht⟩ := h6 name hS
  exact ⟨t, EP.attr (e_get _ hn) ho h1 h2 ht rfl hc⟩
/-- x.name -/
theorem EP.fld (E : ExpS x dx q S len σ.news) (hn : name ∈ six) (hS : name ∈ S) (ho : EP c d σ o (fun u => u = .ref x)) (hc : autoParam (eval (.Attribute o name pos) (env c d) = (do let v ← eval o (env c d); standAt pos.atName; let r ← holding [v] (PySem.getAttr v name true); letTemporaryGo o v r; Pure.pure r)) tacR) : EP c d σ (.Attribute o name pos) (IsI (q name)) :=
  (EP.fldV E hn hS ho hc).elim fun t h => EP.mono h fun v e => ⟨t, e⟩
end
theorem Ex.setG {c : FnS} {d : Dy} {σ : St} {P : Flow → St → Prop} {rest : List Stmt} {e o : PySem.Expr} {pos p2 : Pos} {x dx : Addr} {q : Str → Int} {name : Str} {i : Int} (E : ExpAt x dx q σ.news) (hn : name ∈ six) (he : EP c d σ e (IsI i)) (ho : EP c d σ o (fun u => u = .ref x)) (k : ∀ n', ExpAt x dx (Mine.setF q name i) n' → Keep [dx] σ.news n' → Tr c d ⟨σ.m, n'⟩ (execs rest (env c d)) P)
    (hs : autoParam (swapsWith e (some (.Attribute o name p2)) pos.line (env c d) = Pure.pure false) tacR) : Tr c d σ (execs (.Assign [.Attribute o name p2] e pos :: rest) (env c d)) P :=
  Ex.setF E (by decide) hn (.inr ⟨hn, Nat.le_refl _⟩) he ho (fun n' E' K => k n' (E'.sub fun y hy => ⟨.tail _ hy, rfl⟩) K) hs
theorem g_nojump (w : World) : ∃ t, nsIn (KK w.params) mainGlobals (Str.ofString "NO_JUMP") = some (some (.int (-1) t)) := ⟨_, by k_is⟩
theorem g_vknum (w : World) : ∃ t, nsIn (KK w.params) mainGlobals (Str.ofString "VKNUM") = some (some (.int 5 t)) := ⟨_, by k_is⟩
theorem EP.globI {c : FnS} {d : Dy} {σ : St} {x : Str} {i : Int} {pos : Pos} (g : ∃ t, nsIn (KK d.w.params) mainGlobals x = some (some (.int i t))) (hx : autoParam ((env c d).kindOf x = some .globalImplicit) tacR) (hd : autoParam ((x == ("__debug__" : Str)) = false) tacR) : EP c d σ (.Name x pos) (IsI i) := by
  obtain ⟨t, g⟩ := g
  exact EP.mono (EP.glob g hx hd) fun v e => ⟨t, e⟩
noncomputable def newQ (k i : Int) : Str → Int := setF (setF (setF (setF (setF (setF (fun _ => 0) (Str.ofString "kind") k) (Str.ofString "info") i) (Str.ofString "aux") 0) (Str.ofString "number") 0) (Str.ofString "t") (-1)) (Str.ofString "f") (-1)
theorem newQ_eq {q : Str → Int} {k i : Int} : ∀ y ∈ six, newQ k i y = setF (setF (setF (setF (setF (setF q (Str.ofString "kind") k) (Str.ofString "info") i) (Str.ofString "aux") 0) (Str.ofString "number") 0) (Str.ofString "t") (-1)) (Str.ofString "f") (-1) y := by
  intro y hy
  simp only [six, List.mem_cons, List.not_mem_nil, or_false] at hy
  rcases hy with rfl | rfl | rfl | rfl | rfl | rfl <;> rfl
/-- the six statements that __init__ and reset share -/
theorem expinit_c (w : World) {x dx : Addr} {k i : Int} {t t2 : Tok} {news : Led} (hne : x ≠ dx) : Con w 35 1 [.ref x, .int k t, .int i t2] ((x, instObj 73 dx) :: (dx, dictOf [] 0) :: news) (fun r n' => r = .none ∧ ExpAt x dx (newQ k i) n' ∧ Keep [dx] ((x, instObj 73 dx) :: (dx, dictOf [] 0) :: news) n') := by
  (refine' con_intro (binds := [(Str.ofString "self", .ref x), (Str.ofString "kind", .int k t), (Str.ofString "info", .int i t2)]) ?ho ?hcd ?hb ?hl ?c1 ?c2 ?c3 ?c4 ?_; (case ho => k_is); (case hcd => k_is); (case hb => exact fun s _ => BindsTo.of_eq rfl); (case hl => exact locs rfl); (case c1 => exact rfl); (case c2 => exact rfl); (case c3 => exact rfl); (case c4 => decide)); rintro d rfl hrm
  have E0 : ExpS x dx (fun _ => 0) [] 0 ((x, instObj 73 dx) :: (dx, dictOf [] 0) :: news) := ⟨hne, [], 0, .head _, .tail _ (.head _), Nat.le_refl _, rfl, fun _ _ => rfl, fun _ h => nomatch h⟩
  refine Ex.setF E0 (by decide) i_kind (.inl (Nat.le_refl _)) EP.nameI EP.name fun n1 E1 K1 => ?_
  refine Ex.setF E1 (by decide) i_info (.inl (Nat.le_refl _)) EP.nameI EP.name fun n2 E2 K2 => ?_
  refine Ex.setF E2 (by decide) i_aux (.inl (Nat.le_refl _)) EP.int EP.name fun n3 E3 K3 => ?_
  refine Ex.setF E3 (by decide) i_number (.inl (Nat.le_refl _)) EP.int EP.name fun n4 E4 K4 => ?_
  refine Ex.setF E4 (by decide) i_t (.inl (Nat.le_refl _)) (EP.globI (g_nojump _)) EP.name fun n5 E5 K5 => ?_
  refine Ex.setF E5 (by decide) i_f (.inl (Nat.le_refl _)) (EP.globI (g_nojump _)) EP.name fun n6 E6 K6 => Ex.nil ⟨rfl, E6.sub fun y hy => ⟨List.mem_reverse.mpr hy, rfl⟩, K1.trans (K2.trans (K3.trans (K4.trans (K5.trans K6))))⟩
theorem reset_c (w : World) {x dx : Addr} {q : Str → Int} {k i : Int} {t t2 : Tok} {news : Led} (E0 : ExpAt x dx q news) : Con w 42 1 [.ref x, .int k t, .int i t2] news (fun r n' => ExpAt x dx (newQ k i) n' ∧ Keep [dx] news n') := by
  (refine' con_intro (binds := [(Str.ofString "self", .ref x), (Str.ofString "kind", .int k t), (Str.ofString "info", .int i t2)]) ?ho ?hcd ?hb ?hl ?c1 ?c2 ?c3 ?c4 ?_; (case ho => k_is); (case hcd => k_is); (case hb => exact fun s _ => BindsTo.of_eq rfl); (case hl => exact locs rfl); (case c1 => exact rfl); (case c2 => exact rfl); (case c3 => exact rfl); (case c4 => decide)); rintro d rfl hrm
  refine Ex.setG E0 i_kind EP.nameI EP.name fun n1 E1 K1 => ?_
  refine Ex.setG E1 i_info EP.nameI EP.name fun n2 E2 K2 => ?_
  refine Ex.setG E2 i_aux EP.int EP.name fun n3 E3 K3 => ?_
  refine Ex.setG E3 i_number EP.int EP.name fun n4 E4 K4 => ?_
  refine Ex.setG E4 i_t (EP.globI (g_nojump _)) EP.name fun n5 E5 K5 => ?_
  refine Ex.setG E5 i_f (EP.globI (g_nojump _)) EP.name fun n6 E6 K6 => Ex.nil ⟨E6.sub fun y hy => ⟨hy, newQ_eq y hy⟩, K1.trans (K2.trans (K3.trans (K4.trans (K5.trans K6))))⟩
noncomputable def numeral (q : Str → Int) : Prop := q (Str.ofString "kind") = 5 ∧ q (Str.ofString "t") = -1 ∧ q (Str.ofString "f") = -1
theorem numeral_c (w : World) {x dx : Addr} {q : Str → Int} {news : Led} (E : ExpAt x dx q news) : Con w 70 1 [.ref x] news (fun v n' => IsP (numeral q) v ∧ news = n') := by
  (refine' con_intro (binds := [(Str.ofString "self", .ref x)]) ?ho ?hcd ?hb ?hl ?c1 ?c2 ?c3 ?c4 ?_; (case ho => k_is); (case hcd => k_is); (case hb => exact fun s _ => BindsTo.of_eq rfl); (case hl => exact locs rfl); (case c1 => exact rfl); (case c2 => exact rfl); (case c3 => exact rfl); (case c4 => decide)); rintro d rfl hrm
  exact Ex.retB (R := IsP (numeral q)) (EP.and (EP.cmp (EP.fld E i_kind i_kind EP.name) (EP.globI (g_vknum _)) cmp_eq) fun _ => EP.and (EP.cmp (EP.fld E i_t i_t EP.name) (EP.globI (g_nojump _)) cmp_eq) fun _ => EP.and1 (EP.cmp (EP.fld E i_f i_f EP.name) (EP.globI (g_nojump _)) cmp_eq))
end Mine

namespace Mine
open PySem PySem.W PySem.Spec PySem.Calls PyProof.Rows
theorem fill__j_Z1 : (PySem.Challenge.rw_nt0638_01, KK) = (PySem.Challenge.rw_nt0638_01, KK) := by k_fill; rfl
/-- a list of ints on the ledger -/
noncomputable def LI (a : Addr) (ns : List Int) (news : Led) : Prop := ∃ vs, (a, listOf (List.toArray vs) 0) ∈ news ∧ IntsAre vs ns
/-- e makes or finds a list of the ints ns -/
noncomputable abbrev EL (c : FnS) (d : Dy) (σ : St) (e : PySem.Expr) (ns : List Int) : Prop := Tr c d σ (eval e (env c d)) (fun v σ' => (∃ a, v = .ref a ∧ LI a ns σ'.news) ∧ σ'.m = σ.m ∧ ∀ p ∈ σ.news, p ∈ σ'.news)
section
variable {c : FnS} {d : Dy} {σ : St} {e e2 : PySem.Expr} {es : List PySem.Expr} {pos sp p1 p2 p3 : Pos} {ns ms : List Int} {x : Str} {a : Addr} {k : Nat} {i : Int}
theorem Args.l {P : List Value → St → Prop} (he : EL c d σ e ns) (k : ∀ a n', LI a ns n' → (∀ p ∈ σ.news, p ∈ n') → Args c d ⟨σ.m, n'⟩ pos es (fun vs σ2 => P (.ref a :: vs) σ2)) (hs : autoParam (starEach (e :: es) (env c d) = (false, eval e (env c d)) :: starEach es (env c d)) tacR) : Args c d σ pos (e :: es) P :=
  Args.cons he (by rintro v ⟨m, n⟩ ⟨⟨a, rfl, h⟩, rfl, hs⟩; exact k a n h hs) hs
theorem LI.sub {news news' : Led} (h : LI a ns news) (k : ∀ p ∈ news, p ∈ news') : LI a ns news' := let ⟨vs, h, i⟩ := h; ⟨vs, k _ h, i⟩
theorem EL.name (hv : σ.m x = some (.ref a)) (h : LI a ns σ.news) (hx : autoParam ((env c d).kindOf x = some .local) tacR) (hd : autoParam ((x == ("__debug__" : Str)) = false) tacR) : EL c d σ (.Name x pos) ns :=
  Tr.mono (EP.name hv hx hd) fun _ _ q => ⟨⟨a, q.1, q.2 ▸ h⟩, q.2 ▸ rfl, fun _ h => q.2 ▸ h⟩
theorem EL.cut {lo hi : Option PySem.Expr} {l h : Option Int} (he : EL c d σ e ns) (hlo : ∀ σ', Tr c d σ' (evalPart lo (env c d)) (fun v σ2 => IsPart v l ∧ σ' = σ2)) (hhi : ∀ σ', Tr c d σ' (evalPart hi (env c d)) (fun v σ2 => IsPart v h ∧ σ' = σ2))
    (hm : ∀ vs, IntsAre vs ns → IntsAre (slicePick vs.toArray l h none).toList ms) (hz : ns.length ≤ 1000) (hs : ∀ o i, subscripted (.Slice lo hi none sp) false o i = operate [i, o] (getItem o i) := by exact fun _ _ => rfl) (ht : ∀ o r, letTemporaryGo e o r = Pure.pure () := by exact fun _ _ => rfl) : EL c d σ (.Subscript e (.Slice lo hi none sp) pos) ms := by
  intro s Q E H r
  refine Subscript_ (he s _ E H ?_)
  rintro _ σ' h' tk' ⟨⟨a, rfl, vs, hm', hi'⟩, em, hsub⟩ H'
  refine wpAny_Slice (hlo _ { s with heap := h', toks := tk' } _ E H' ?_)
  rintro vl _ h2 tk2 ⟨pl, rfl⟩ H2
  refine hhi _ { s with heap := h2, toks := tk2 } _ E H2 ?_
  rintro vu _ h3 tk3 ⟨pu, rfl⟩ H3
  obtain ⟨g, G⟩ := H3
  refine wpAny_pure ?_
  refine kmk_slice (s := { s with heap := h3, toks := tk3 }) G.fr G.nw (News.isList G.nw hm') pl pu (fun D h4 F4 N4 lt => ?_) (hs _ _) (fun r => ht _ r) (len_fits (by rw [List.size_toArray, hi'.length]; exact hz))
  exact r _ ⟨σ'.m, (D, listOf (slicePick vs.toArray l h none) 0) :: σ'.news⟩ h4 tk3 ⟨⟨D, rfl, _, by rw [Array.toArray_toList]; exact .head _, hm _ hi'⟩, em, fun p hp => .tail _ (hsub p hp)⟩ (G.to F4 N4)
theorem part_int {σ' : St} {k : Nat} : Tr c d σ' (evalPart (some (.Constant (.int i) k p1)) (env c d)) (fun v σ2 => IsPart v (some i) ∧ σ' = σ2) := Tr.mono (EP.int (n := k) (pos := p1)) (by rintro v σ2 ⟨⟨t, rfl⟩, e⟩; exact ⟨.int i t, e⟩)
theorem part_none {σ' : St} : Tr c d σ' (evalPart none (env c d)) (fun v σ2 => IsPart v none ∧ σ' = σ2) := Tr.pure ⟨.none, rfl⟩
/-- e[:i], e[i:] -/
theorem EL.upto (he : EL c d σ e ns) (h0 : 0 ≤ i) (hz : ns.length ≤ 1000) (ht : ∀ o r, letTemporaryGo e o r = Pure.pure () := by exact fun _ _ => rfl) : EL c d σ (.Subscript e (.Slice none (some (.Constant (.int i) k p1)) none sp) pos) (ns.take i.toNat) :=
  EL.cut he (fun _ => part_none) (fun _ => part_int) (fun _ h => kmk_upto h h0) hz (fun _ _ => rfl) ht
theorem EL.from (he : EL c d σ e ns) (h0 : 0 ≤ i) (hz : ns.length ≤ 1000) (ht : ∀ o r, letTemporaryGo e o r = Pure.pure () := by exact fun _ _ => rfl) : EL c d σ (.Subscript e (.Slice (some (.Constant (.int i) k p1)) none none sp) pos) (ns.drop i.toNat) :=
  EL.cut he (fun _ => part_int) (fun _ => part_none) (fun _ h => kmk_from h h0) hz (fun _ _ => rfl) ht
theorem EL.add (he : EL c d σ e ns) (h2 : ∀ σ', σ'.m = σ.m → (∀ p ∈ σ.news, p ∈ σ'.news) → EL c d σ' e2 ms) (hz : ns.length + ms.length ≤ 1000) : EL c d σ (.BinOp e .Add e2 pos) (ns ++ ms) := by
  refine Tr.bin he ?_
  rintro _ σ' ⟨⟨a, rfl, hl⟩, em, hsub⟩
  refine Tr.mono (h2 σ' em hsub) ?_
  rintro _ σ2 ⟨⟨b, rfl, vs2, hm2, hi2⟩, em2, hsub2⟩
  obtain ⟨vs, hm, hi⟩ := hl.sub hsub2
  intro s Q E H r
  obtain ⟨g, G⟩ := id H
  refine kmk_add_ints G.fr G.nw (News.isList G.nw hm) (News.isList G.nw hm2) hi hi2 (fun D us h' F' N' lt hu => ?_) (len_fits hz)
  exact r _ ⟨σ2.m, (D, listOf (List.toArray us) 0) :: σ2.news⟩ h' _ ⟨⟨D, rfl, us, .head _, hu⟩, em2.trans em, fun p hp => .tail _ (hsub2 p (hsub p hp))⟩ (G.to F' N')
/-- a display of ints -/
theorem EL.list (ha : Args c d σ pos es (fun vs σ' => σ = σ' ∧ IntsAre vs ns)) (hz : ns.length ≤ 1000) : EL c d σ (.List es pos) ns := by
  refine EP.list (Tr.mono ha ?_)
  rintro vs σ' ⟨rfl, hi⟩
  exact ⟨hi.length ▸ hz, fun a _ => ⟨⟨a, rfl, vs, .head _, hi⟩, rfl, fun _ h => .tail _ h⟩⟩
theorem EL.cmp {op : CmpOp} {p : Prop} (hl : EL c d σ e ns) (hr : ∀ σ', σ'.m = σ.m → (∀ p ∈ σ.news, p ∈ σ'.news) → EL c d σ' e2 ms) (hu : 8 ≤ d.room)
    (ho : ∀ (A : Around) (s : Shared) (Q : Value → Shared → Prop) (E : Value → Shared → Prop) a b vs us, A.units + 64 < cLine → s.heap.IsList a (List.toArray vs) → IntsAre vs ns → s.heap.IsList b (List.toArray us) → IntsAre us ms → (∀ b, (b = true ↔ p) → Q (.bool b) s) → wpAny (model PySem.Challenge.rw_nt0638_01.row.prog d.w) A (compareOp op (.ref a) (.ref b)) Q E s) :
    ∀ (s : Shared) (Q : Value → Shared → Prop) (E : Value → Shared → Prop), Holds c d σ s.heap → (∀ b h' tk', (b = true ↔ p) → Holds c d σ h' → Q (.bool b) { s with heap := h', toks := tk' }) →
      wpAny (model PySem.Challenge.rw_nt0638_01.row.prog d.w) (Ar c d) (eval e (env c d)) (fun v s₁ => wpAny (model PySem.Challenge.rw_nt0638_01.row.prog d.w) (Ar c d) (eval e2 (env c d)) (fun u s₂ => wpAny (model PySem.Challenge.rw_nt0638_01.row.prog d.w) (Ar c d) (compareOp op v u) Q E s₂) E s₁) E s := by
  intro s Q E H k
  refine hl s _ E H ?_
  rintro _ σ' h' tk' ⟨⟨a, rfl, hl⟩, em, hsub⟩ H'
  refine hr σ' em hsub { s with heap := h', toks := tk' } _ E H' ?_
  rintro _ ⟨m2, n2⟩ h2 tk2 ⟨⟨b, rfl, us, hm2, hi2⟩, em2, hsub2⟩ H2
  obtain ⟨vs, hm, hi⟩ := hl.sub hsub2
  obtain rfl : m2 = σ.m := em2.trans em
  obtain ⟨g, G⟩ := id H2
  refine ho _ _ Q E a b vs us ?_ (News.isList G.nw hm) hi (News.isList G.nw hm2) hi2 fun bv hb => k bv h2 tk2 hb (H2.drop fun p hp => hsub2 p (hsub p hp))
  show d.A₀.units + 3 + 64 < cLine
  exact Nat.lt_of_le_of_lt (Nat.add_le_add_left (Nat.mul_le_mul_left 8 hu) _) G.ok.units
theorem EP.eqL (hl : EL c d σ e ns) (hr : ∀ σ', σ'.m = σ.m → (∀ p ∈ σ.news, p ∈ σ'.news) → EL c d σ' e2 ms) (hu : 8 ≤ d.room) (hm : autoParam (behindInMarks .Eq e2 = false) tacR) : EP c d σ (.Compare e [.Eq] [e2] pos) (IsP (ns = ms)) := by
  intro s Q E H k
  refine wpAny_Compare1 (EL.cmp (p := ns = ms) hl hr hu (fun A s Q E a b vs us hu h1 h2 h3 h4 k => eq_intsK h1 h2 h3 h4 hu (k _ decide_eq_true_iff)) s Q E H fun b h' tk' hb H' => ?_) hm
  exact k (.bool b) σ h' tk' ⟨⟨b, rfl, hb⟩, rfl⟩ H'
theorem TT.neL (hl : EL c d σ e ns) (hr : ∀ σ', σ'.m = σ.m → (∀ p ∈ σ.news, p ∈ σ'.news) → EL c d σ' e2 ms) (hu : 8 ≤ d.room) (hm : autoParam (behindInMarks .NotEq e2 = false) tacR) : TT c d σ (.Compare e [.NotEq] [e2] pos) (ns ≠ ms) := by
  intro s Q E H k
  refine wpAny_isTrue_Compare1 (EL.cmp (p := ns ≠ ms) hl hr hu (fun A s Q E a b vs us hu h1 h2 h3 h4 k => ne_intsK h1 h2 h3 h4 hu (k _ (by simp))) s _ E H fun b h' tk' hb H' => ?_) hm
  exact wpAny_truthy_bool (k b σ h' tk' ⟨hb, rfl⟩ H')
end
end Mine

namespace Mine
open PySem PySem.W PySem.Spec PySem.Calls PyProof.Rows
theorem fill__j_Z2 : (PySem.Challenge.rw_nt0638_01, KK) = (PySem.Challenge.rw_nt0638_01, KK) := by k_fill; rfl
section
variable {c : FnS} {d : Dy} {σ : St} {P : Flow → St → Prop} {PV : Value → St → Prop} {PB : Bool → St → Prop} {J : St → Prop} {p q : Prop} {rest body : List Stmt} {e e2 a b t l r : PySem.Expr} {es : List PySem.Expr} {pos p1 p2 tp : Pos} {k : Int} {ns : List Int} {x y dx : Addr} {qf : Str → Int} {tk : Nat}
/-- a test that may turn the state; J of the state behind -/
noncomputable abbrev TJ (c : FnS) (d : Dy) (σ : St) (e : PySem.Expr) (p : Prop) (J : St → Prop) : Prop := Tr c d σ (isTrue e (env c d) (eval e (env c d))) (fun b σ' => (b = true ↔ p) ∧ J σ')
theorem TT.toJ (h : TT c d σ e p) (hJ : J σ) : TJ c d σ e p J := Tr.mono h fun _ _ q => ⟨q.1, q.2 ▸ hJ⟩
theorem TJ.or2 (ha : TJ c d σ a p J) (hb : ∀ σ', J σ' → TJ c d σ' b q J) : TJ c d σ (.BoolOp .Or [a, b] pos) (p ∨ q) J := by
  intro s Q E H k
  refine isTrue_or (ha s _ E H ?_)
  rintro bv σ' h' tk' ⟨hb', hJ⟩ H'
  cases bv with
  | true => exact k true σ' h' tk' ⟨⟨fun _ => .inl (hb'.mp rfl), fun _ => rfl⟩, hJ⟩ H'
  | false =>
    refine isTrue_or (hb σ' hJ { s with heap := h', toks := tk' } _ E H' ?_)
    rintro b2 σ2 h2 tk2 ⟨hb2, hJ2⟩ H2
    have np : ¬ p := fun z => nomatch hb'.mpr z
    cases b2 with
    | true => exact k true σ2 h2 tk2 ⟨⟨fun _ => .inr (hb2.mp rfl), fun _ => rfl⟩, hJ2⟩ H2
    | false => exact isTrue_or_nil (k false σ2 h2 tk2 ⟨⟨fun z => (nomatch z), fun z => absurd z fun z => Or.elim z np fun y => nomatch hb2.mpr y⟩, hJ2⟩ H2)
/-- if t: return .. where t never holds -/
theorem Ex.pass (ht : TJ c d σ t p J) (hp : ¬ p) (h : ∀ σ', J σ' → Tr c d σ' (execs rest (env c d)) P) : Tr c d σ (execs (.If t body [] pos :: rest) (env c d)) P := by
  intro s Q E H k
  refine wpAny_execs_cons (wpAny_If (ht s _ E H ?_))
  rintro bv σ' h' tk' ⟨hb, hJ⟩ H'
  cases bv with
  | true => exact absurd (hb.mp rfl) hp
  | false => exact wpAny_execs_nil (h σ' hJ _ _ _ H' k)
theorem TJ.cmp {op : CmpOp} {Ra Rb : Value → Prop} (hl : Tr c d σ (eval l (env c d)) (fun v σ' => Ra v ∧ J σ')) (hr : ∀ σ', J σ' → Tr c d σ' (eval r (env c d)) (fun v σ' => Rb v ∧ J σ')) (ho : CmpOk op Ra Rb p) (hm : autoParam (behindInMarks op r = false) tacR) : TJ c d σ (.Compare l [op] [r] pos) p J := by
  intro s Q E H k
  refine wpAny_isTrue_Compare1 (hl s _ E H ?_) hm
  rintro v σ' h' tk' ⟨hv, hJ⟩ H'
  refine hr σ' hJ { s with heap := h', toks := tk' } _ E H' ?_
  rintro u σ2 h2 tk2 ⟨hu, hJ2⟩ H2
  exact ho d.w _ { s with heap := h2, toks := tk2 } _ E v u hv hu fun x tk hx => wpAny_truthy_bool (k x σ2 h2 tk ⟨hx, hJ2⟩ H2)
/-- e, for its turn of the state alone -/
theorem Ex.expr (he : Tr c d σ (eval e (env c d)) (fun _ σ' => Tr c d σ' (execs rest (env c d)) P)) (hi : autoParam (interactive (env c d) = false) tacR) (hs : autoParam (swapsWith e none pos.line (env c d) = Pure.pure false) tacR) : Tr c d σ (execs (.Expr e pos :: rest) (env c d)) P := by
  intro s Q E H k
  refine wpAny_execs_cons (wpAny_Expr_any (he s _ E H fun _ σ' h' tk' h H' => ?_) hi hs)
  exact h { s with heap := h', toks := tk' } Q E H' k
/-- e in (e1, ..) of ints -/
theorem TT.inTup (he : EP c d σ e (IsI k)) (ha : Args c d σ tp es (fun vs σ' => σ = σ' ∧ IntsAre vs ns)) (hz : ns.length ≤ 1000) (hm : autoParam (behindInMarks .In (.Tuple es tk tp) = false) tacR) : TT c d σ (.Compare e [.In] [.Tuple es tk tp] pos) (k ∈ ns) := by
  intro s Q E H r
  refine wpAny_isTrue_Compare1 (he s _ E H ?_) hm
  rintro _ σ' h' tk' ⟨⟨t, rfl⟩, rfl⟩ H'
  refine EP.tuple (PV := fun v σ' => ∃ a vs, v = .ref a ∧ σ' = ⟨σ.m, (a, tupOf (List.toArray vs) 0) :: σ.news⟩ ∧ IntsAre vs ns) (Tr.mono ha ?_) { s with heap := h', toks := tk' } _ E H' ?_
  · rintro vs σ' ⟨rfl, hi⟩
    exact ⟨hi.length ▸ hz, fun a _ => ⟨a, vs, rfl, rfl, hi⟩⟩
  rintro _ _ h2 tk2 ⟨a, vs, rfl, rfl, hi⟩ H2
  obtain ⟨g, G⟩ := id H2
  refine in_tuple_ints (News.isTup G.nw (.head _)) hi (wpAny_truthy_bool (r _ σ h2 tk2 ⟨?_, rfl⟩ (H2.drop fun _ h => .tail _ h)))
  simp [List.any_eq_true]
end
/-- the text of a truth value -/
noncomputable def IsR (p : Prop) (v : Value) : Prop := ∃ b t, (b = true ↔ p) ∧ v = .str (if b then "True" else "False") t
theorem cmp_neR {p q : Prop} : CmpOk .NotEq (IsR p) (IsR q) (¬ (p ↔ q)) := by
  rintro w A s Q E _ _ ⟨a, t, ha, rfl⟩ ⟨b, u, hb, rfl⟩ k
  refine ne_str (k _ s.toks ?_)
  rw [← ha, ← hb]
  cases a <;> cases b <;> decide
theorem g_repr (w : World) : nsIn (KK w.params) mainGlobals (Str.ofString "repr") = some none := by k_is
theorem Tr.repr {c : FnS} {d : Dy} {σ : St} {e : PySem.Expr} {pos p1 : Pos} {p : Prop} {J : St → Prop} (he : Tr c d σ (eval e (env c d)) (fun v σ' => IsP p v ∧ J σ')) (hs : autoParam (starEach [e] (env c d) = [(false, eval e (env c d))]) tacR) (hx : autoParam ((env c d).kindOf (Str.ofString "repr") = some .globalImplicit) tacR) :
    Tr c d σ (eval (.Call (.Name (Str.ofString "repr") p1) [e] [] pos) (env c d)) (fun v σ' => IsR p v ∧ J σ') := by
  refine EP.callB (EP.built (g_repr _) boot_repr (by decide) hx rfl) (Args.cons he ?_ hs) hs (by rw [hs]; rfl) rfl
  rintro _ σ' ⟨⟨b, rfl, hb⟩, hJ⟩
  refine Args.nil ?_
  intro s Q E H k
  exact PySem.P.repr_of_bool (k _ σ' s.heap _ ⟨⟨b, _, hb, rfl⟩, hJ⟩ H)
theorem g_vnil (w : World) : ∃ t, nsIn (KK w.params) mainGlobals (Str.ofString "VNIL") = some (some (.int 1 t)) := ⟨_, by k_is⟩
theorem g_vtrue (w : World) : ∃ t, nsIn (KK w.params) mainGlobals (Str.ofString "VTRUE") = some (some (.int 2 t)) := ⟨_, by k_is⟩
theorem g_vfalse (w : World) : ∃ t, nsIn (KK w.params) mainGlobals (Str.ofString "VFALSE") = some (some (.int 3 t)) := ⟨_, by k_is⟩
theorem g_vk (w : World) : ∃ t, nsIn (KK w.params) mainGlobals (Str.ofString "VK") = some (some (.int 4 t)) := ⟨_, by k_is⟩
theorem g_suretrue (w : World) : ∃ t, nsIn (KK w.params) mainGlobals (Str.ofString "SURE_TRUE") = some (some (.int 1 t)) := ⟨_, by k_is⟩
theorem g_surefalse (w : World) : ∃ t, nsIn (KK w.params) mainGlobals (Str.ofString "SURE_FALSE") = some (some (.int 0 t)) := ⟨_, by k_is⟩
theorem g_unsure (w : World) : ∃ t, nsIn (KK w.params) mainGlobals (Str.ofString "UNSURE") = some (some (.int (-1) t)) := ⟨_, by k_is⟩
/-- how a kind tests: 1 true, 0 false, -1 unsure -/
noncomputable def sureF (k : Int) : Int := if k ∈ [4, 5, 2] then 1 else if k ∈ [1, 3] then 0 else -1
theorem ints_cons {n : Int} {v : Value} {vs : List Value} {ns : List Int} (h : IsI n v) (r : IntsAre vs ns) : IntsAre (v :: vs) (n :: ns) := by obtain ⟨t, rfl⟩ := h; exact .cons n t r
theorem sure_c (w : World) {k : Int} {t : Tok} {news : Led} : Con w 189 1 [.int k t] news (GI (sureF k) news) := by
  (refine' con_intro (binds := [(Str.ofString "kind", .int k t)]) ?ho ?hcd ?hb ?hl ?c1 ?c2 ?c3 ?c4 ?_; (case ho => k_is); (case hcd => k_is); (case hb => exact fun s _ => BindsTo.of_eq rfl); (case hl => exact locs rfl); (case c1 => exact rfl); (case c2 => exact rfl); (case c3 => exact rfl); (case c4 => decide)); rintro d rfl hrm
  unfold sureF
  refine Ex.if_ (TT.inTup (ns := [4, 5, 2]) EP.nameI (Args.p (EP.globI (g_vk _)) fun v1 h1 => Args.p (EP.globI (g_vknum _)) fun v2 h2 => Args.p (EP.globI (g_vtrue _)) fun v3 h3 => Args.nil ⟨rfl, ints_cons h1 (ints_cons h2 (ints_cons h3 .nil))⟩) (by decide)) (fun h => ?_) (fun h => ?_)
  · rw [if_pos h]; exact Ex.retB (EP.globI (g_suretrue _))
  rw [if_neg h]
  refine Ex.if_ (TT.inTup (ns := [1, 3]) EP.nameI (Args.p (EP.globI (g_vnil _)) fun v1 h1 => Args.p (EP.globI (g_vfalse _)) fun v2 h2 => Args.nil ⟨rfl, ints_cons h1 (ints_cons h2 .nil)⟩) (by decide)) (fun h => ?_) (fun h => ?_)
  · rw [if_pos h]; exact Ex.retB (EP.globI (g_surefalse _))
  · rw [if_neg h]; exact Ex.retB (EP.globI (g_unsure _))
end Mine

namespace Mine
open PySem PySem.W PySem.Spec PySem.Calls PyProof.Rows
theorem fill__j_Z3 : (PySem.Challenge.rw_nt0638_01, KK) = (PySem.Challenge.rw_nt0638_01, KK) := by k_fill; rfl
theorem g_sure (w : World) : nsIn (KK w.params) mainGlobals (Str.ofString "sure_truth") = some (some (.ref 189)) := by k_is
theorem k_sure (w : World) : keepIn (KK w.params) (.ref 189) = true := by k_is
theorem g_foldedf (w : World) : nsIn (KK w.params) mainGlobals (Str.ofString "folded") = some (some (.ref 203)) := by k_is
theorem k_foldedf (w : World) : keepIn (KK w.params) (.ref 203) = true := by k_is
theorem m_isnum (w : World) : MethOk w 73 (Str.ofString "is_numeral") 70 := ⟨by k_is, by k_is, by k_is, by k_is, by k_is⟩
theorem n_isnum : Str.ofString "is_numeral" ∉ six := by decide
section
variable {c : FnS} {d : Dy} {σ : St} {o e : PySem.Expr} {pos ap p1 : Pos} {q : Str → Int} {x dx : Addr}
theorem EP.isNum (E : ExpAt x dx q σ.news) (hr : 1 ≤ d.room) (ho : EP c d σ o (fun u => u = .ref x)) (hc : ∃ pl : Sem Bool, eval (.Call (.Attribute o (Str.ofString "is_numeral") ap) [] [] pos) (env c d) = (do
      let ov ← eval o (env c d)
      standAt ap.atName
      let (f, first) ← holding [ov] (PySem.getMethod ov (Str.ofString "is_numeral") pl)
      callWith pos f first (backTo pos (starEach [] (env c d))) (backToKw pos (keywordEach [] (env c d)))) := by exact ⟨_, rfl⟩) : TT c d σ (.Call (.Attribute o (Str.ofString "is_numeral") ap) [] [] pos) (numeral q) := by
  obtain ⟨es, n, h1, h2, h3, h4, h5, h6⟩ := E.ex
  exact TT.plain (EP.callM0 (m_isnum _) ho h1 h2 (h5 _ n_isnum) hr (numeral_c _ E) hc)
end
noncomputable def shown (q : Str → Int) : List Int := [q (Str.ofString "kind"), q (Str.ofString "info"), q (Str.ofString "aux"), q (Str.ofString "number"), q (Str.ofString "t"), q (Str.ofString "f")]
theorem shown_c (w : World) {x dx : Addr} {q : Str → Int} {news : Led} (E : ExpAt x dx q news) : Con w 259 1 [.ref x] news (fun v n' => (∃ a, v = .ref a ∧ LI a (shown q) n') ∧ ∀ p ∈ news, p ∈ n') := by
  (refine' con_intro (binds := [(Str.ofString "e", .ref x)]) ?ho ?hcd ?hb ?hl ?c1 ?c2 ?c3 ?c4 ?_; (case ho => k_is); (case hcd => k_is); (case hb => exact fun s _ => BindsTo.of_eq rfl); (case hl => exact locs rfl); (case c1 => exact rfl); (case c2 => exact rfl); (case c3 => exact rfl); (case c4 => decide)); rintro d rfl hrm
  refine Ex.ret (Tr.mono (EL.list (ns := shown q) (Args.p (EP.fld E i_kind i_kind EP.name) fun v1 h1 => Args.p (EP.fld E i_info i_info EP.name) fun v2 h2 => Args.p (EP.fld E i_aux i_aux EP.name) fun v3 h3 => Args.p (EP.fld E i_number i_number EP.name) fun v4 h4 => Args.p (EP.fld E i_t i_t EP.name) fun v5 h5 => Args.p (EP.fld E i_f i_f EP.name) fun v6 h6 => Args.nil ⟨rfl, ints_cons h1 (ints_cons h2 (ints_cons h3 (ints_cons h4 (ints_cons h5 (ints_cons h6 .nil)))))⟩) (show 6 ≤ 1000 by decide)) fun v σ' r => ⟨r.1, r.2.2⟩)
theorem g_shown (w : World) : nsIn (KK w.params) mainGlobals (Str.ofString "_law_shown") = some (some (.ref 259)) := by k_is
theorem k_shown (w : World) : keepIn (KK w.params) (.ref 259) = true := by k_is
/-- _law_shown(e) -/
theorem EL.shown {c : FnS} {d : Dy} {σ : St} {e : PySem.Expr} {pos p1 : Pos} {q : Str → Int} {x dx : Addr} (E : ExpAt x dx q σ.news) (hr : 1 ≤ d.room) (he : EP c d σ e (fun u => u = .ref x)) (hs : autoParam (starEach [e] (env c d) = [(false, eval e (env c d))]) tacR) (hx : autoParam ((env c d).kindOf (Str.ofString "_law_shown") = some .globalImplicit) tacR) :
    EL c d σ (.Call (.Name (Str.ofString "_law_shown") p1) [e] [] pos) (shown q) :=
  EP.callG (EP.glob (g_shown _) hx rfl) (k_shown _) (Args.v he (Args.nil (Tr.mono (Tr.call (shown_c d.w E) hr) fun _ _ r => ⟨r.1.1, r.2, r.1.2⟩)) hs) hs rfl rfl
/-- negate_sure -/
noncomputable def negQ (q : Str → Int) : Str → Int := if sureF (q (Str.ofString "kind")) = -1 then q else setF q (Str.ofString "kind") (if sureF (q (Str.ofString "kind")) = 1 then 3 else 2)
theorem negate_c (w : World) {x dx : Addr} {q : Str → Int} {news : Led} (E : ExpAt x dx q news) : Con w 196 2 [.ref x] news (fun v n' => IsP (sureF (q (Str.ofString "kind")) ≠ -1) v ∧ ExpAt x dx (negQ q) n' ∧ Keep [dx] news n') := by
  (refine' con_intro (binds := [(Str.ofString "e", .ref x)]) ?ho ?hcd ?hb ?hl ?c1 ?c2 ?c3 ?c4 ?_; (case ho => k_is); (case hcd => k_is); (case hb => exact fun s _ => BindsTo.of_eq rfl); (case hl => exact locs rfl); (case c1 => exact rfl); (case c2 => exact rfl); (case c3 => exact rfl); (case c4 => decide)); rintro d rfl hrm
  unfold negQ
  generalize hs : sureF (q (Str.ofString "kind")) = u
  have hs' := hs
  refine Ex.assignI (i := u) (EP.callP (g_sure _) (k_sure _) (k := 1) (Nat.le_of_eq hrm.symm) (Args.p (EP.fld E i_kind i_kind EP.name) fun v hv => Args.nil ⟨rfl, ?_⟩)) fun tk => ?_
  · obtain ⟨t, rfl⟩ := hv; rw [← hs]; exact sure_c _
  refine Ex.if_ (TT.cmp EP.nameI (EP.globI (g_unsure _)) cmp_eq) (fun h => ?_) (fun h => ?_)
  · rw [if_pos h]; exact Ex.retB EP.bool fun v e => ⟨⟨false, e, Iff.intro (fun z => (nomatch z)) (fun z => absurd h z)⟩, E, Keep.refl⟩
  rw [if_neg h]
  refine Ex.setG E i_kind (i := if u = 1 then 3 else 2) (EP.ifexp (TT.cmp EP.nameI (EP.globI (g_suretrue _)) cmp_eq) (fun h1 => ?_) (fun h1 => ?_)) EP.name fun n1 E1 K1 => ?_
  · rw [if_pos h1]; exact EP.globI (g_vfalse _)
  · rw [if_neg h1]; exact EP.globI (g_vtrue _)
  exact Ex.retB EP.bool fun v e => ⟨⟨true, e, Iff.intro (fun _ => h) (fun _ => rfl)⟩, E1, K1⟩
end Mine

namespace Mine
open PySem PySem.W PySem.Spec PySem.Calls PyProof.Rows
theorem fill__j_Z4 : (PySem.Challenge.rw_nt0638_01, KK) = (PySem.Challenge.rw_nt0638_01, KK) := by k_fill; rfl
structure LimAt (lim dl : Addr) (wd : Int) (news : Led) : Prop where
  ne : lim ≠ dl
  ex : ∃ es n t, (lim, instObj 109 dl) ∈ news ∧ (dl, dictOf es n) ∈ news ∧ getL (Str.ofString "width") es = some (some (.int wd t))
theorem LimAt.toIn {lim dl : Addr} {wd : Int} {news : Led} (L : LimAt lim dl wd news) : LimIn lim wd news := ⟨dl, L.ex⟩
theorem LimAt.keep {lim dl : Addr} {wd : Int} {news news' : Led} {as : List Addr} (L : LimAt lim dl wd news) (k : Keep as news news') (h1 : lim ∉ as) (h2 : dl ∉ as) : LimAt lim dl wd news' :=
  ⟨L.ne, L.ex.elim fun es q => q.elim fun n q => q.elim fun t q => ⟨es, n, t, k _ q.1 h1, k _ q.2.1 h2, q.2.2⟩⟩
open Classical in
/-- what fold makes: the number, or nothing -/
noncomputable def fdF (q r : Str → Int) (op f h : Int) : Option Int := if numeral q ∧ numeral r then foF op (q (Str.ofString "number")) (r (Str.ofString "number")) f h else none
noncomputable def putO (q : Str → Int) : Option Int → Str → Int
  | some i => setF q (Str.ofString "number") i
  | none => q
noncomputable def Fold (x dx : Addr) (q r : Str → Int) (op f h : Int) (news : Led) (v : Value) (n' : Led) : Prop := IsP (fdF q r op f h ≠ none) v ∧ ExpAt x dx (putO q (fdF q r op f h)) n' ∧ Keep [dx] news n'
theorem fold_c (w : World) {x dx y dy lim : Addr} {q r : Str → Int} {op wd f h : Int} {t : Tok} {news : Led} (W : Wd wd f h) (L : LimIn lim wd news) (E1 : ExpAt x dx q news) (E2 : ExpAt y dy r news)
    (hx : -1073741824 < q (Str.ofString "number") ∧ q (Str.ofString "number") < 1073741824) (hb : -1073741824 < r (Str.ofString "number") ∧ r (Str.ofString "number") < 1073741824) : Con w 210 6 [.int op t, .ref x, .ref y, .ref lim] news (Fold x dx q r op f h news) := by
  (refine' con_intro (binds := [(Str.ofString "op", .int op t), (Str.ofString "e1", .ref x), (Str.ofString "e2", .ref y), (Str.ofString "limits", .ref lim)]) ?ho ?hcd ?hb ?hl ?c1 ?c2 ?c3 ?c4 ?_; (case ho => k_is); (case hcd => k_is); (case hb => exact fun s _ => BindsTo.of_eq rfl); (case hl => exact locs rfl); (case c1 => exact rfl); (case c2 => exact rfl); (case c3 => exact rfl); (case c4 => decide)); rintro d rfl hrm
  have r5 : 5 ≤ d.room := Nat.le_of_eq hrm.symm
  have r1 : 1 ≤ d.room := Nat.le_trans (by decide) r5
  unfold Fold fdF
  refine Ex.if_ (TT.or2 (TT.not (EP.isNum E1 r1 EP.name)) fun _ => TT.not (EP.isNum E2 r1 EP.name)) (fun z => ?_) (fun z => ?_)
  · rw [if_neg fun y => z.elim (fun z => z y.1) fun z => z y.2]
    exact Ex.retB EP.bool fun v e => ⟨⟨false, e, Iff.intro (fun z => (nomatch z)) (fun z => absurd rfl z)⟩, E1, Keep.refl⟩
  rw [if_pos ⟨Classical.not_not.mp fun y => z (.inl y), Classical.not_not.mp fun y => z (.inr y)⟩]
  refine Ex.assignK (P₁ := GO (foF op (q (Str.ofString "number")) (r (Str.ofString "number")) f h) news) (Tr.mono (EP.callP (g_foldedf _) (k_foldedf _) (k := 5) r5 (Args.v EP.name (Args.p (EP.fld E1 i_number i_number EP.name) fun v1 h1 => Args.p (EP.fld E2 i_number i_number EP.name) fun v2 h2 => Args.v EP.name (Args.nil ⟨rfl, ?_⟩)))) fun v σ' q => ⟨_, q.2 ▸ rfl, q.1, rfl⟩) ?_
  · obtain ⟨t1, rfl⟩ := h1; obtain ⟨t2, rfl⟩ := h2; exact folded_c d.w W L hx hb
  generalize foF op (q (Str.ofString "number")) (r (Str.ofString "number")) f h = o
  rintro u _ ⟨hu, rfl⟩
  cases o with
  | none =>
    obtain rfl : u = .none := hu
    refine Ex.if_ (TT.cmp EP.name EP.none cmp_is) (fun _ => ?_) (fun z => absurd rfl z)
    exact Ex.retB EP.bool fun v e => ⟨⟨false, e, Iff.intro (fun z => (nomatch z)) (fun z => absurd rfl z)⟩, E1, Keep.refl⟩
  | some i =>
    obtain ⟨t1, rfl⟩ : IsI i u := hu
    refine Ex.if_ (TT.cmp (EP.name (v := .int i t1)) EP.none cmp_is) (fun z => nomatch z) (fun _ => ?_)
    refine Ex.setG E1 i_number EP.nameI EP.name fun n1 E1 K1 => ?_
    exact Ex.retB EP.bool fun v e => ⟨⟨true, e, Iff.intro (fun _ z => (nomatch z)) (fun _ => rfl)⟩, E1, K1⟩
end Mine

namespace Mine
open PySem PySem.W PySem.Spec PySem.Calls PyProof.Rows
theorem fill__j_Z5 : (PySem.Challenge.rw_nt0638_01, KK) = (PySem.Challenge.rw_nt0638_01, KK) := by k_fill; rfl
noncomputable def Sub (news n' : Led) : Prop := ∀ p ∈ news, p ∈ n'
theorem Sub.refl {n : Led} : Sub n n := fun _ h => h
theorem Sub.trans {n1 n2 n3 : Led} (h : Sub n1 n2) (h' : Sub n2 n3) : Sub n1 n3 := fun p hp => h' p (h p hp)
/-- the addresses x, dx are not in the ledger -/
noncomputable def New (x dx : Addr) (news : Led) : Prop := ∀ p ∈ news, p.1 ≠ x ∧ p.1 ≠ dx
theorem ExpS.sub' {x dx : Addr} {q : Str → Int} {S : List Str} {len : Nat} {news news' : Led} (E : ExpS x dx q S len news) (k : Sub news news') : ExpS x dx q S len news' :=
  ⟨E.ne, E.ex.elim fun es q => q.elim fun n q => ⟨es, n, k _ q.1, k _ q.2.1, q.2.2⟩⟩
theorem LimAt.sub {lim dl : Addr} {wd : Int} {news news' : Led} (L : LimAt lim dl wd news) (k : Sub news news') : LimAt lim dl wd news' :=
  ⟨L.ne, L.ex.elim fun es q => q.elim fun n q => q.elim fun t q => ⟨es, n, t, k _ q.1, k _ q.2.1, q.2.2⟩⟩
theorem TreeIn.sub {b l : Addr} {news news' : Led} {v : Value} {T : Tre} (h : TreeIn b l news v T) (k : Sub news news') : TreeIn b l news' v T := h.keep fun p hp _ => k p hp
theorem ints_get {vs : List Value} {ns : List Int} (h : IntsAre vs ns) : ∀ {k : Nat} {i : Int}, ns[k]? = some i → ∃ t, vs[k]? = some (.int i t) := by
  induction h with
  | nil => intro k i q; exact nomatch (List.getElem?_nil.symm.trans q : none = some i)
  | cons n t _ ih =>
    intro k i q
    cases k with
    | zero => exact ⟨t, by cases q; rfl⟩
    | succ k => exact ih q
section
variable {c : FnS} {d : Dy} {σ : St} {P : Flow → St → Prop} {e ie : PySem.Expr} {pos px p1 : Pos} {x : Str} {ns : List Int} {rest : List Stmt} {a : Addr} {k i : Int} {t t2 : Tok} {n : Nat}
theorem EP.item (h : LI a ns σ.news) (hx : ns[k.toNat]? = some i) (h0 : 0 ≤ k) (h1 : k < 2 ^ 63) (he : EP c d σ e (fun u => u = .ref a)) : EP c d σ (.Subscript e (.Constant (.int k) n p1) pos) (IsI i) := by
  obtain ⟨vs, hm, hi⟩ := h
  obtain ⟨t, ht⟩ := ints_get hi hx
  exact EP.mono (EP.subL he hm EP.int h0 h1 (by rw [List.getElem?_toArray]; exact ht)) fun v e => ⟨t, e⟩
theorem Ex.assignL (he : EL c d σ e ns) (k : ∀ a n', LI a ns n' → Sub σ.news n' → Tr c d ⟨upd σ.m x (.ref a), n'⟩ (execs rest (env c d)) P)
    (hx : autoParam ((env c d).kindOf x = some .local) tacR) (hs : autoParam (swapsWith e (some (.Name x px)) pos.line (env c d) = Pure.pure false) tacR) : Tr c d σ (execs (.Assign [.Name x px] e pos :: rest) (env c d)) P :=
  Ex.assign he (by rintro v ⟨m, n⟩ ⟨⟨a, rfl, h⟩, rfl, hs⟩; exact k a n h hs) hx hs
theorem h_exp (w : World) : makesIn (KK w.params) 73 = true ∧ findIn (KK w.params) (.ref 73) "__init__" = some (some (.ref 35)) ∧ isFn (KK w.params) (.ref 35) = true := ⟨by k_is, by k_is, by k_is⟩
theorem g_exp (w : World) : nsIn (KK w.params) mainGlobals (Str.ofString "ExpDesc") = some (some (.ref 73)) := by k_is
theorem k_exp (w : World) : keepIn (KK w.params) (.ref 73) = true := by k_is
/-- a new description -/
noncomputable def Made (k i : Int) (news : Led) (v : Value) (n' : Led) : Prop := ∃ x dx, v = .ref x ∧ ExpAt x dx (newQ k i) n' ∧ Sub news n' ∧ New x dx news
theorem Tr.newExp (hr : 2 ≤ d.room) : Tr c d σ (PySem.call (.ref 73) [.int k t, .int i t2]) (fun v σ' => Made k i σ.news v σ'.news ∧ σ'.m = σ.m) := by
  obtain ⟨h1, h2, h3⟩ := h_exp d.w
  refine Tr.make h1 h2 h3 hr fun x dx l1 l2 => (expinit_c d.w (Nat.ne_of_gt l2)).mono ?_
  rintro r n' ⟨hr, hE, hK⟩
  exact ⟨hr, x, dx, rfl, hE, fun p hp => hK p (.tail _ (.tail _ hp)) (by simpa using Nat.ne_of_lt (l1 p hp)), fun p hp => ⟨Nat.ne_of_lt (Nat.lt_trans (l1 p hp) l2), Nat.ne_of_lt (l1 p hp)⟩⟩
/-- ExpDesc(5, 0) -/
theorem EP.exp50 {n1 n2 : Nat} {p2 p3 : Pos} (hr : 2 ≤ d.room) (hx : autoParam ((env c d).kindOf (Str.ofString "ExpDesc") = some .globalImplicit) tacR) : Tr c d σ (eval (.Call (.Name (Str.ofString "ExpDesc") p1) [.Constant (.int k) n1 p2, .Constant (.int i) n2 p3] [] pos) (env c d)) (fun v σ' => ∃ n', σ' = ⟨σ.m, n'⟩ ∧ Made k i σ.news v n') := by
  refine EP.callG (EP.glob (g_exp _) hx rfl) (k_exp _) (Args.i EP.int fun t => Args.i EP.int fun t2 => Args.nil (Tr.mono (Tr.newExp hr) ?_))
  rintro v ⟨m, n⟩ ⟨h, rfl⟩
  exact ⟨n, rfl, h⟩
end
/-- what is told of a tree that comes to o -/
structure ToldQ (o : Option Int) (q : Str → Int) : Prop where
  t : q (Str.ofString "t") = -1
  f : q (Str.ofString "f") = -1
  k : q (Str.ofString "kind") = if o.isSome then 5 else 11
  n : q (Str.ofString "number") = o.getD 0
theorem ToldQ.numeral {o : Option Int} {q : Str → Int} (h : ToldQ o q) : numeral q ↔ o.isSome = true := by
  unfold Mine.numeral
  rw [h.t, h.f, h.k]
  cases o <;> simp
noncomputable def Told (o : Option Int) (news : Led) (v : Value) (n' : Led) : Prop := ∃ x dx q, v = .ref x ∧ ExpAt x dx q n' ∧ Sub news n' ∧ New x dx news ∧ ToldQ o q
theorem cmp_isnotO {o : Option Int} : CmpOk .IsNot (OI o) (fun v => v = .none) (o ≠ none) := by
  rintro w A s Q E u _ hu rfl k
  refine isNot_none (k _ s.toks ?_)
  cases o with
  | none => obtain rfl : u = .none := hu; simp
  | some i => obtain ⟨t, rfl⟩ : IsI i u := hu; simp
theorem fd_told {o1 o2 : Option Int} {q r : Str → Int} {op f h : Int} (h1 : ToldQ o1 q) (h2 : ToldQ o2 r) : fdF q r op f h = o1.bind fun a => o2.bind fun b => foF op a b f h := by
  unfold fdF
  rw [h1.numeral, h2.numeral, h1.n, h2.n]
  cases o1 <;> cases o2 <;> simp
theorem told_put {o1 o : Option Int} {q : Str → Int} (h1 : ToldQ o1 q) (h : o ≠ none → o1 ≠ none) (hn : o ≠ none) : ToldQ o (putO q o) := by
  cases o with
  | none => exact absurd rfl hn
  | some i =>
    have := h hn
    cases o1 with
    | none => exact absurd rfl this
    | some j => exact ⟨h1.t, h1.f, h1.k, rfl⟩
theorem told_reset : ToldQ none (newQ 11 0) := ⟨rfl, rfl, rfl, rfl⟩
theorem told_num {i : Int} : ToldQ (some i) (setF (newQ 5 0) (Str.ofString "number") i) := ⟨rfl, rfl, rfl, rfl⟩
theorem told_new : ToldQ (some 0) (newQ 5 0) := ⟨rfl, rfl, rfl, rfl⟩
theorem told_bd {T : Tre} {wd f h : Int} {q : Str → Int} (W : Wd wd f h) (ok : T.Ok h) (hq : ToldQ (T.val f h) q) : -1073741824 < q (Str.ofString "number") ∧ q (Str.ofString "number") < 1073741824 := by
  rw [hq.n]
  cases e : T.val f h with
  | none => exact ⟨by decide, by decide⟩
  | some i => exact W.sm (Tre.val_in W ok e)
theorem Tr.know {α : Type} {c : FnS} {d : Dy} {σ : St} {t : Sem α} {P : α → St → Prop} (k : (∀ a o o', (a, o) ∈ σ.news → (a, o') ∈ σ.news → o = o') → Tr c d σ t P) : Tr c d σ t P := by
  intro s Q E H r
  obtain ⟨g, G⟩ := id H
  exact k (fun a o o' h h' => Option.some.inj ((G.nw _ h).1.symm.trans (G.nw _ h').1)) s Q E H r
theorem LI.ne {a x dx : Addr} {ns : List Int} {q : Str → Int} {news : Led} (U : ∀ a o o', (a, o) ∈ news → (a, o') ∈ news → o = o') (h : LI a ns news) (E : ExpAt x dx q news) : a ≠ dx := by
  rintro rfl
  obtain ⟨vs, h, -⟩ := h
  obtain ⟨-, es, n, -, h', -⟩ := E
  have e := congrArg Obj.data (U _ _ _ h h')
  exact nomatch e
theorem LI.keep {a : Addr} {ns : List Int} {news news' : Led} {as : List Addr} (h : LI a ns news) (k : Keep as news news') (ha : a ∉ as) : LI a ns news' := let ⟨vs, h, i⟩ := h; ⟨vs, k _ h ha, i⟩
theorem EP.repr {c : FnS} {d : Dy} {σ : St} {e : PySem.Expr} {pos p1 : Pos} {p : Prop} (he : EP c d σ e (IsP p)) (hs : autoParam (starEach [e] (env c d) = [(false, eval e (env c d))]) tacR) (hx : autoParam ((env c d).kindOf (Str.ofString "repr") = some .globalImplicit) tacR) : EP c d σ (.Call (.Name (Str.ofString "repr") p1) [e] [] pos) (IsR p) := Tr.repr (J := fun σ' => σ = σ') he hs hx
theorem Ex.assignP {c : FnS} {d : Dy} {σ : St} {e : PySem.Expr} {rest : List Stmt} {P : Flow → St → Prop} {x : Str} {px pos : Pos} {p : Prop} (he : EP c d σ e (IsP p)) (k : ∀ b : Bool, (b = true ↔ p) → Tr c d ⟨upd σ.m x (.bool b), σ.news⟩ (execs rest (env c d)) P)
    (hx : autoParam ((env c d).kindOf x = some .local) tacR) (hs : autoParam (swapsWith e (some (.Name x px)) pos.line (env c d) = Pure.pure false) tacR) : Tr c d σ (execs (.Assign [.Name x px] e pos :: rest) (env c d)) P :=
  Ex.assign he (by rintro v σ' ⟨⟨b, rfl, hb⟩, rfl⟩; exact k b hb) hx hs
theorem EP.nameP {c : FnS} {d : Dy} {σ : St} {pos : Pos} {x : Str} {b : Bool} {p : Prop} (hb : b = true ↔ p) (hv : autoParam (σ.m x = some (.bool b)) tacR) (hx : autoParam ((env c d).kindOf x = some .local) tacR) (hd : autoParam ((x == ("__debug__" : Str)) = false) tacR) : EP c d σ (.Name x pos) (IsP p) := EP.mono (EP.name hv hx hd) fun _ e => ⟨b, e, hb⟩
theorem known_iff {o1 o2 : Option Int} {q r : Str → Int} {op f h : Int} (h1 : ToldQ o1 q) (h2 : ToldQ o2 r) : (o1.bind fun a => o2.bind fun b => foF op a b f h) ≠ none ↔ foF op (q (Str.ofString "number")) (r (Str.ofString "number")) f h ≠ none ∧ q (Str.ofString "kind") = 5 ∧ r (Str.ofString "kind") = 5 := by
  rw [h1.k, h2.k, h1.n, h2.n]
  cases o1 <;> cases o2 <;> simp
/-- a description made behind another lies apart from it -/
theorem ExpS.apart {x dx y dy : Addr} {q : Str → Int} {S : List Str} {len : Nat} {news : Led} (E : ExpS x dx q S len news) (N : New y dy news) : y ∉ [dx] ∧ dy ∉ [dx] :=
  E.ex.elim fun _ h => h.elim fun _ h => ⟨fun z => (N _ h.2.1).1 (List.mem_singleton.mp z).symm, fun z => (N _ h.2.1).2 (List.mem_singleton.mp z).symm⟩
theorem LimAt.apart {lim dl x dx : Addr} {wd : Int} {n : Led} (L : LimAt lim dl wd n) (N : New x dx n) : lim ∉ [dx] ∧ dl ∉ [dx] :=
  L.ex.elim fun _ h => h.elim fun _ h => h.elim fun _ h => ⟨fun z => (N _ h.1).2 (List.mem_singleton.mp z), fun z => (N _ h.2.1).2 (List.mem_singleton.mp z)⟩
theorem OI.some {i : Int} {u : Value} {G : Prop} (h : OI (some i) u) (k : ∀ t, u = .int i t → G) : G := Exists.elim (show IsI i u from h) k
theorem shown_put {q : Str → Int} {o : Option Int} : (shown (putO q o)).take 3 ++ (shown (putO q o)).drop 4 = (shown q).take 3 ++ (shown q).drop 4 := by cases o <;> rfl
end Mine

namespace Mine
open PySem PySem.W PySem.Spec PySem.Calls PyProof.Rows
theorem fill__j_Z6 : (PySem.Challenge.rw_nt0638_01, KK) = (PySem.Challenge.rw_nt0638_01, KK) := by k_fill; rfl
theorem g_fold (w : World) : nsIn (KK w.params) mainGlobals (Str.ofString "fold") = some (some (.ref 210)) := by k_is
theorem k_fold (w : World) : keepIn (KK w.params) (.ref 210) = true := by k_is
theorem g_told (w : World) : nsIn (KK w.params) mainGlobals (Str.ofString "_law_told") = some (some (.ref 266)) := by k_is
theorem k_told (w : World) : keepIn (KK w.params) (.ref 266) = true := by k_is
theorem m_reset (w : World) : MethOk w 73 (Str.ofString "reset") 42 := ⟨by k_is, by k_is, by k_is, by k_is, by k_is⟩
theorem n_reset : Str.ofString "reset" ∉ six := by decide
/-- e.reset(k, i) -/
theorem Ex.reset {c : FnS} {d : Dy} {σ : St} {P : Flow → St → Prop} {rest : List Stmt} {o e1 e2 : PySem.Expr} {ap pos pos2 : Pos} {x dx : Addr} {q : Str → Int} {k i : Int} (E : ExpAt x dx q σ.news) (hr : 1 ≤ d.room) (ho : EP c d σ o (fun u => u = .ref x)) (h1 : EP c d σ e1 (IsI k)) (h2 : EP c d σ e2 (IsI i)) (kk : ∀ n', ExpAt x dx (newQ k i) n' → Keep [dx] σ.news n' → Tr c d ⟨σ.m, n'⟩ (execs rest (env c d)) P)
    (hs : autoParam (starEach [e1, e2] (env c d) = (false, eval e1 (env c d)) :: starEach [e2] (env c d)) tacR) (hs2 : autoParam (starEach [e2] (env c d) = [(false, eval e2 (env c d))]) tacR)
    (hc : ∃ pl : Sem Bool, eval (.Call (.Attribute o (Str.ofString "reset") ap) [e1, e2] [] pos) (env c d) = (do
      let ov ← eval o (env c d)
      standAt ap.atName
      let (f, first) ← holding [ov] (PySem.getMethod ov (Str.ofString "reset") pl)
      callWith pos f first (backTo pos (starEach [e1, e2] (env c d))) (backToKw pos (keywordEach [] (env c d)))) := by exact ⟨_, rfl⟩)
    (hi : autoParam (interactive (env c d) = false) tacR) (hw : autoParam (swapsWith (.Call (.Attribute o (Str.ofString "reset") ap) [e1, e2] [] pos) none pos2.line (env c d) = Pure.pure false) tacR) :
    Tr c d σ (execs (.Expr (.Call (.Attribute o (Str.ofString "reset") ap) [e1, e2] [] pos) pos2 :: rest) (env c d)) P := by
  obtain ⟨es, en, m1, m2, -, -, e5, -⟩ := E.ex
  refine Ex.expr (Tr.mono (EP.callM (PW := fun v n' => ExpAt x dx (newQ k i) n' ∧ Keep [dx] σ.news n') (m_reset _) ho m1 m2 (e5 _ n_reset) hr (Args.i h1 (fun t1 => Args.i h2 (fun t2 => Args.nil ⟨rfl, reset_c d.w E⟩) hs2) hs) hs (by rw [hs2]; rfl) hc) ?_) hi hw
  rintro _ ⟨m, n⟩ ⟨⟨E7, K7⟩, rfl⟩
  exact kk n E7 K7
theorem at_ {M g : Str → Option Value} {k : Str} {v : Option Value} (e : M = g) (h : g k = v) : M k = v := e ▸ h
inductive TwoR (n1 : Led) (G : Option Int → Prop) (v : Value) (n' : Led) : Prop
  | mk {x2 d2 : Addr} {r : Str → Int} {o2 : Option Int} (ev : v = .ref x2) (E : ExpAt x2 d2 r n') (S : Sub n1 n') (N : New x2 d2 n1) (Q : ToldQ o2 r) (b : -1073741824 < r (Str.ofString "number") ∧ r (Str.ofString "number") < 1073741824) (g : G o2) : TwoR n1 G v n'
theorem TwoR.el {n1 : Led} {G : Option Int → Prop} {v : Value} {n' : Led} {C : Prop} (h : TwoR n1 G v n') (k : ∀ x2 d2 r o2, v = .ref x2 → ExpAt x2 d2 r n' → Sub n1 n' → New x2 d2 n1 → ToldQ o2 r → (-1073741824 < r (Str.ofString "number") ∧ r (Str.ofString "number") < 1073741824) → G o2 → C) : C := by
  cases h with
  | mk ev E S N Q b g => exact k _ _ _ _ ev E S N Q b g
theorem told_c (w : World) {b l lim dl : Addr} {wd f h : Int} (W : Wd wd f h) : ∀ (n : Nat) (T : Tre) (v : Value) (news : Led), T.depth ≤ n → TreeIn b l news v T → T.Ok h → LimAt lim dl wd news → Con w 266 (n + 10) [v, .ref lim] news (Told (T.val f h) news) := by
  intro n
  induction n using Nat.strongRecOn with
  | ind n ih =>
    intro T v news dp hT ok L
    (refine' con_intro (binds := [(Str.ofString "tree", v), (Str.ofString "limits", .ref lim)]) ?ho ?hcd ?hb ?hl ?c1 ?c2 ?c3 ?c4 ?_; (case ho => k_is); (case hcd => k_is); (case hb => exact fun s _ => BindsTo.of_eq rfl); (case hl => exact locs rfl); (case c1 => exact rfl); (case c2 => exact rfl); (case c3 => exact rfl); (case c4 => decide)); rintro d rfl hrm
    have rr : ∀ k, k ≤ n + 9 → k ≤ d.room := fun k h => hrm.symm ▸ h
    have r2 : ∀ k, k ≤ 9 → k ≤ d.room := fun k h => rr k (Nat.le_trans h (Nat.le_add_left _ _))
    refine Ex.assignK (EP.exp50 (r2 2 (by decide))) fun _ n0 h0 => el24 h0 ?_
    rintro x0 d0 rfl E0 S0 N0
    refine Ex.if_ (EP.isInt rfl (hT.sub S0)) (fun z => ?_) (fun z => ?_)
    · rcases node_of (n := n) (f := f) hT ok dp with ⟨i, rfl, t, rfl⟩ | ⟨z', -⟩
      · refine Ex.setG E0 i_number EP.nameI EP.name fun n1 E1 K1 => ?_
        exact Ex.retB EP.name fun v e => ⟨x0, d0, _, e, E1, fun p hp => K1 p (S0 p hp) (by simpa using (N0 p hp).2), N0, told_num⟩
      · exact absurd z z'
    refine (node_of (n := n) (f := f) hT ok dp).elim (fun q => absurd (q.elim fun i q => ⟨i, q.1⟩) z) fun q => q.2.elim fun a q => ?_
    obtain ⟨rfl, nd⟩ := q
    obtain @⟨its, op, t, v1, T1, hm, j0, j1, g0, g1, hT1, ok1, dp1, hop, hc⟩ := nd
    have X0 := fun {σ : St} {p1 p2 p3 : Pos} {k : Nat} {c : FnS} (hs : Sub news σ.news) (hv : σ.m (Str.ofString "tree") = some (.ref a)) (hx : (env c d).kindOf (Str.ofString "tree") = some .local) => EP.mono (R' := IsI op) (EP.subT (c := c) (d := d) (σ := σ) (pos := p1) (EP.name (pos := p2) hv hx rfl) (hs _ hm) (EP.int (i := 0) (n := k) (pos := p3)) (by decide) (by decide) j0 g0) fun v q => ⟨t, q⟩
    refine Ex.assignK (EP.callC (g_told _) (k_told _) (rr _ (Nat.add_lt_add_right dp1 9)) (Args.v (EP.subT EP.name (S0 _ hm) EP.int (by decide) (by decide) j1 g1) (Args.v EP.name (Args.nil ⟨rfl, ih _ dp1 T1 v1 n0 (Nat.le_refl _) (hT1.sub S0) ok1 (L.sub S0)⟩)))) fun _ n1 h1 => el35 h1 ?_
    rintro x1 d1 q rfl E1 S1 N1 Q1
    have A1 := S0.trans S1
    have fo : ∀ a b, foF op a b f h = arF op a b f h := fun a b => if_pos hop
    refine Ex.assignK (P₁ := TwoR n1 (fun o2 => T.val f h = (T1.val f h).bind fun a => o2.bind fun b => foF op a b f h))
      (Tr.ifexp (TT.cmp (X0 A1 rfl rfl) EP.int cmp_eq) (fun e => Tr.mono (EP.exp50 (r2 2 (by decide))) fun v σ' q => q.elim fun n2 q => ⟨n2, q.1, el24 q.2 fun x2 d2 e2 E2 S2 N2 => .mk e2 E2 S2 N2 told_new ⟨by decide, by decide⟩ ((hc.resolve_right fun z => z.1.1 e).2.trans (congrArg (Option.bind _) (funext fun a => (fo a 0).symm)))⟩) (fun e => ?_)) fun _ n2 h2 => h2.el fun x2 d2 r o2 e2 E2 S2 N2 Q2 b2 ev => ?_
    · obtain ⟨-, v2, T2, j2, g2, hT2, ok2, dp2, ev⟩ := hc.resolve_left fun z => e z.1
      exact Tr.mono (EP.callC (g_told _) (k_told _) (rr _ (Nat.add_lt_add_right dp2 9)) (Args.v (EP.subT EP.name (A1 _ hm) EP.int (by decide) (by decide) j2 g2) (Args.v EP.name (Args.nil ⟨rfl, ih _ dp2 T2 v2 n1 (Nat.le_refl _) (hT2.sub A1) ok2 (L.sub A1)⟩)))) fun v σ' q => q.elim fun n2 q => ⟨n2, q.1, el35 q.2 fun x2 d2 r e2 E2 S2 N2 Q2 => .mk e2 E2 S2 N2 Q2 (told_bd W ok2 Q2) (ev.trans (congrArg (Option.bind _) (funext fun a => congrArg (Option.bind _) (funext fun b => (fo a b).symm))))⟩
    subst e2
    have ef := fd_told (op := op) (f := f) (h := h) Q1 Q2
    have b1 := told_bd W ok1 Q1
    rw [← ev] at ef
    have A2 := A1.trans S2
    have n2 := E1.apart N2
    refine Ex.pass (TT.toJ (J := fun σ' => σ' = _) (TT.or2 (TT.cmp (EP.name (v := .ref x1)) EP.none cmp_is) fun _ => TT.cmp (EP.name (v := .ref x2)) EP.none cmp_is) rfl) (fun z => z.elim (fun z => (nomatch z)) fun z => (nomatch z)) ?_
    rintro _ rfl
    refine Ex.tup2 (by decide) (Args.l (EL.shown (E1.sub' S2) (r2 1 (by decide)) EP.name) fun a1 n3 L1 S3 => Args.l (EL.shown (E2.sub' S3) (r2 1 (by decide)) EP.name) fun a2 n4 L2 S4 => Args.nil ⟨_, _, rfl, Tr.know fun U => ?_⟩)
    have A4 := A2.trans (Sub.trans S3 S4)
    have E4 := E1.sub' (S2.trans (Sub.trans S3 S4))
    have L1' := L1.sub S4
    have na1 : a1 ∉ [d1] := fun z => L1'.ne U E4 (List.mem_singleton.mp z)
    have na2 : a2 ∉ [d1] := fun z => L2.ne U E4 (List.mem_singleton.mp z)
    clear U
    have E24 := E2.sub' (Sub.trans S3 S4)
    refine Ex.assignK (EP.callC (g_fold _) (k_fold _) (r2 6 (by decide)) (Args.i (X0 A4 rfl rfl) fun t1 => Args.v EP.name (Args.v EP.name (Args.v EP.name (Args.nil ⟨rfl, fold_c d.w W (L.sub A4).toIn E4 E24 b1 b2⟩))))) fun _ n5 h5 => ?_
    have E5 := h5.2.1
    have K5 := h5.2.2
    refine el12 h5.1 fun bv eb hb => ?_
    subst eb
    clear h5
    rw [ef] at hb E5
    have A5 : Sub news n5 := fun p hp => K5 p (A4 p hp) fun z => (N1 p (S0 p hp)).2 (List.mem_singleton.mp z)
    have E25 := E24.keep K5 n2.1 n2.2
    have L15 := L1'.keep K5 na1
    have L25 := L2.keep K5 na2
    refine Ex.assignL (EL.shown E5 (r2 1 (by decide)) EP.name) fun a3 n6 L3 S6 => ?_
    have L16 := L15.sub S6
    have L26 := L25.sub S6
    refine Ex.pass (TT.toJ (J := fun σ' => σ' = _) (TT.or2 (TT.neL (EL.shown (E25.sub' S6) (r2 1 (by decide)) EP.name) (fun σ' em hs => EL.name ((congrFun em _).trans rfl) (L26.sub hs)) (r2 8 (by decide))) fun _ =>
      TT.neL (EL.add (EL.upto (EL.name rfl L3) (by decide) (Nat.le_of_ble_eq_true rfl)) (fun σ' em hs => EL.from (EL.name ((congrFun em _).trans rfl) (L3.sub hs)) (by decide) (Nat.le_of_ble_eq_true rfl)) (Nat.le_of_ble_eq_true rfl))
        (fun σ' em hs => EL.add (EL.upto (EL.name ((congrFun em _).trans rfl) (L16.sub hs)) (by decide) (Nat.le_of_ble_eq_true rfl)) (fun σ2 em2 hs2 => EL.from (EL.name ((congrFun (em2.trans em) _).trans rfl) ((L16.sub hs).sub hs2)) (by decide) (Nat.le_of_ble_eq_true rfl)) (Nat.le_of_ble_eq_true rfl)) (r2 8 (by decide))) rfl) (fun z => z.elim (fun z => z rfl) fun z => z shown_put) ?_
    rintro _ rfl
    have A6 := A5.trans S6
    have kn := known_iff (op := op) (f := f) (h := h) Q1 Q2
    rw [← ev] at kn
    refine Ex.assignP (EP.cmp (EP.callP (R := OI (foF op (q (Str.ofString "number")) (r (Str.ofString "number")) f h)) (g_foldedf _) (k_foldedf _) (k := 5) (r2 5 (by decide)) (Args.i (X0 A6 rfl rfl) fun t1 => Args.i (EP.item L16 rfl (by decide) (by decide) EP.name) fun t2 => Args.i (EP.item L26 rfl (by decide) (by decide) EP.name) fun t3 => Args.v EP.name (Args.nil ⟨rfl, folded_c d.w W (L.sub A6).toIn b1 b2⟩))) EP.none cmp_isnotO) fun b2 hb2 => ?_
    refine Ex.pass (TT.toJ (J := fun σ' => σ' = _) (TT.cmp (EP.repr (EP.nameP hb)) (EP.repr (EP.and (EP.nameP hb2) fun _ => EP.and (EP.cmp (EP.item L16 rfl (by decide) (by decide) EP.name) EP.int cmp_eq) fun _ => EP.and1 (EP.cmp (EP.item L26 rfl (by decide) (by decide) EP.name) EP.int cmp_eq))) cmp_neR) rfl) (fun z => z kn) ?_
    rintro _ rfl
    refine Ex.pass (TT.toJ (J := fun σ' => σ' = _) (TT.and2 (TT.not (TT.plain (EP.nameP hb))) fun _ => TT.neL (EL.name rfl L3) (fun σ' em hs => EL.name ((congrFun em _).trans rfl) (L16.sub hs)) (r2 8 (by decide))) rfl) (fun z => z.2 (by rw [Classical.not_not.mp z.1]; rfl)) ?_
    rintro _ rfl
    have E6 := E5.sub' S6
    have N : New x1 d1 news := fun p hp => N1 p (S0 p hp)
    refine Ex.if_ (TT.not (TT.plain (EP.nameP hb))) (fun z => ?_) (fun z => ?_)
    · refine Ex.reset E6 (r2 1 (by decide)) EP.name EP.int EP.int fun n7 E7 K7 => Ex.nil (Ex.retB EP.name fun v e => ⟨x1, d1, _, e, E7, fun p hp => K7 p (A6 p hp) fun z => (N p hp).2 (List.mem_singleton.mp z), N, ?_⟩)
      rw [Classical.not_not.mp z]
      exact told_reset
    · exact Ex.retB EP.name fun v e => ⟨x1, d1, _, e, E6, A6, N, told_put Q1 (by rw [ev]; intro z z'; rw [z'] at z; exact z rfl) (Classical.not_not.mp z)⟩
end Mine

namespace Mine
open PySem PySem.W PySem.Spec PySem.Calls PyProof.Rows
theorem fill__j_Z7 : (PySem.Challenge.rw_nt0638_01, KK) = (PySem.Challenge.rw_nt0638_01, KK) := by k_fill; rfl
theorem Keep.more {as bs : List Addr} {n n' : Led} (h : Keep as n n') (s : ∀ a ∈ as, a ∈ bs) : Keep bs n n' := fun p hp hn => h p hp fun z => hn (s _ z)
theorem BoxIn.keep {b l : Addr} {news news' : Led} {as : List Addr} (B : BoxIn b l news) (k : Keep as news news') (h1 : b ∉ as) (h2 : l ∉ as) : BoxIn b l news' :=
  ⟨B.ne, B.bx.elim fun s q => q.elim fun t q => q.elim fun n q => ⟨s, t, n, k _ q.1 h1, q.2⟩, B.ls.elim fun vs q => q.elim fun n q => ⟨vs, n, k _ q.1 h2, q.2⟩⟩
theorem nin2 {a b x : Addr} (h1 : a ≠ x) (h2 : b ≠ x) : x ∉ [a, b] := fun z => (List.mem_cons.mp z).elim (fun e => h1 e.symm) fun z => h2 (List.mem_singleton.mp z).symm
/-- the box lies apart from x, dx -/
theorem BoxIn.new {b l x dx : Addr} {news : Led} (B : BoxIn b l news) (N : New x dx news) : (x ∉ [b, l] ∧ dx ∉ [b, l]) ∧ b ∉ [dx] ∧ l ∉ [dx] := by
  refine B.elim fun s ts nb vs nl _ hb _ _ hl _ _ => ?_
  exact ⟨⟨nin2 (N _ hb).1 (N _ hl).1, nin2 (N _ hb).2 (N _ hl).2⟩, fun z => (N _ hb).2 (List.mem_singleton.mp z), fun z => (N _ hl).2 (List.mem_singleton.mp z)⟩
structure AnyI (x dx b l : Addr) (i : Int) (news n : Led) : Prop where
  ex : ∃ q, ExpAt x dx q n ∧ q (Str.ofString "number") = i
  bx : BoxIn b l n
  kp : Keep [b, l, dx] news n
section
variable {c : FnS} {d : Dy} {σ : St} {P : Flow → St → Prop} {J J2 : St → Prop} {rest body : List Stmt} {t l e r : PySem.Expr} {pos p1 p2 p3 p4 : Pos} {k : Int}
theorem Ex.ifJ (ht : Tr c d σ (isTrue t (env c d) (eval t (env c d))) (fun _ σ' => J σ')) (h1 : ∀ σ', J σ' → Tr c d σ' (execs body (env c d)) (fun f σ2 => f = .next ∧ J2 σ2)) (h2 : ∀ σ', J σ' → J2 σ') (h : ∀ σ', J2 σ' → Tr c d σ' (execs rest (env c d)) P) : Tr c d σ (execs (.If t body [] pos :: rest) (env c d)) P := by
  intro s Q E H k
  refine wpAny_execs_cons (wpAny_If (ht s _ E H fun bv σ' h' tk' hJ H' => ?_))
  cases bv with
  | true =>
    refine h1 σ' hJ { s with heap := h', toks := tk' } _ E H' ?_
    rintro _ σ2 h3 tk3 ⟨rfl, hJ2⟩ H3
    exact h σ2 hJ2 _ _ _ H3 k
  | false => exact wpAny_execs_nil (h σ' (h2 σ' hJ) _ _ _ H' k)
theorem Tr.anyEq (hl : Tr c d σ (eval l (env c d)) (fun v σ' => (∃ i, IsI i v) ∧ J σ')) (hr : ∀ σ', EP c d σ' r (IsI k)) (hm : autoParam (behindInMarks .Eq r = false) tacR) : Tr c d σ (isTrue (.Compare l [.Eq] [r] pos) (env c d) (eval (.Compare l [.Eq] [r] pos) (env c d))) (fun _ σ' => J σ') := by
  intro s Q E H k
  refine wpAny_isTrue_Compare1 (hl s _ E H ?_) hm
  rintro v σ' h' tk' ⟨⟨i, hv⟩, hJ⟩ H'
  refine hr σ' { s with heap := h', toks := tk' } _ E H' ?_
  rintro u _ h2 tk2 ⟨hu, rfl⟩ H2
  exact cmp_eq d.w _ { s with heap := h2, toks := tk2 } _ E v u hv hu fun x tk _ => wpAny_truthy_bool (k x σ' h2 tk hJ H2)
variable {b lb x dx : Addr} {i j m : Int} {news : Led} {name : Str} {n1 n2 : Nat}
/-- x.name = _law_take(box, m) -/
theorem Ex.putTake (I : AnyI x dx b lb i news σ.news) (N : New x dx news) (B : BoxIn b lb news) (hn : name ∈ six) (hr : 1 ≤ d.room) (hb : σ.m (Str.ofString "box") = some (.ref b)) (hx : σ.m (Str.ofString "exp") = some (.ref x)) (h0 : 0 < m)
    (k : ∀ j n', 0 ≤ j → j < m → AnyI x dx b lb (if name = Str.ofString "number" then j else i) news n' → Tr c d ⟨σ.m, n'⟩ (execs rest (env c d)) P)
    (hs : autoParam (swapsWith (.Call (.Name (Str.ofString "_law_take") p1) [.Name (Str.ofString "box") p2, .Constant (.int m) n1 p3] [] p4) (some (.Attribute (.Name (Str.ofString "exp") p1') name p2')) pos.line (env c d) = Pure.pure false) tacR)
    (h1 : autoParam ((env c d).kindOf (Str.ofString "_law_take") = some .globalImplicit) tacR) (h2 : autoParam ((env c d).kindOf (Str.ofString "box") = some .local) tacR) (h3 : autoParam ((env c d).kindOf (Str.ofString "exp") = some .local) tacR) :
    Tr c d σ (execs (.Assign [.Attribute (.Name (Str.ofString "exp") p1') name p2'] (.Call (.Name (Str.ofString "_law_take") p1) [.Name (Str.ofString "box") p2, .Constant (.int m) n1 p3] [] p4) pos :: rest) (env c d)) P := by
  obtain ⟨⟨q, E, rfl⟩, B1, K⟩ := I
  obtain ⟨⟨x1, x2⟩, x3, x4⟩ := B.new N
  refine Ex.attrT (P₁ := fun v σ' => ∃ j n', σ' = ⟨σ.m, n'⟩ ∧ IsI j v ∧ 0 ≤ j ∧ j < m ∧ BoxIn b lb n' ∧ Keep [b, lb] σ.news n') (EP.take hr hb B1 EP.int h0 (fun j v n' hv j0 j1 hB hK => ⟨j, n', rfl, hv, j0, j1, hB, hK⟩) rfl h1 h2) (by rintro v _ ⟨j, n', rfl, -⟩; exact EP.name hx h3 rfl) ?_ hs
  rintro v _ ⟨j, n', rfl, ⟨t, rfl⟩, j0, j1, B2, K2⟩
  refine Tr.setF (E.keep K2 x1 x2) (by decide) hn (.inr ⟨hn, Nat.le_refl _⟩) fun n3 E3 K3 => k j n3 j0 j1 ⟨⟨_, E3.sub fun y hy => ⟨.tail _ hy, rfl⟩, ?_⟩, B2.keep K3 x3 x4, K.trans ((K2.more fun _ h => List.mem_append_left [dx] h).trans (K3.more fun _ h => List.mem_append_right [b, lb] h))⟩
  unfold Mine.setF
  by_cases z : name = Str.ofString "number"
  · rw [if_pos z, if_pos z.symm]
  · rw [if_neg z, if_neg (Ne.symm z)]
end
theorem New.back {b l x dx : Addr} {news n : Led} (N : New x dx n) (K : Keep [b, l] news n) (B : BoxIn b l n) : New x dx news := by
  intro p hp
  by_cases z : p.1 ∈ [b, l]
  · refine B.elim fun s ts nb vs nl _ hb _ _ hl _ _ => ?_
    rcases List.mem_cons.mp z with e | e
    · rw [e]; exact N _ hb
    · rw [List.mem_singleton.mp e]; exact N _ hl
  · exact N p (K p hp z)
theorem AnyI.take {x dx b l : Addr} {i : Int} {news n n' : Led} (I : AnyI x dx b l i news n) (hx : x ∉ [b, l]) (hd : dx ∉ [b, l]) (hB : BoxIn b l n') (hK : Keep [b, l] n n') : AnyI x dx b l i news n' :=
  let ⟨⟨q, E, e⟩, _, K⟩ := I; ⟨⟨q, E.keep hK hx hd, e⟩, hB, K.trans (hK.more fun _ h => List.mem_append_left [dx] h)⟩
noncomputable def AnyR (b l : Addr) (news : Led) (v : Value) (n' : Led) : Prop := ∃ x dx q, v = .ref x ∧ ExpAt x dx q n' ∧ (0 ≤ q (Str.ofString "number") ∧ q (Str.ofString "number") < 9) ∧ BoxIn b l n' ∧ Keep [b, l] news n' ∧ New x dx news
structure AnyJ (b x dx l : Addr) (j : Int) (news : Led) (σ : St) : Prop where
  mb : σ.m (Str.ofString "box") = some (.ref b)
  mx : σ.m (Str.ofString "exp") = some (.ref x)
  i : AnyI x dx b l j news σ.news
noncomputable def AnyN (b l : Addr) (news : Led) (v : Value) (n' : Led) : Prop := ∃ x dx, v = .ref x ∧ AnyI x dx b l 0 news n' ∧ New x dx news
theorem any_new {v : Value} {σ' : St} {b l : Addr} {k k2 : Int} {m : Str → Option Value} {n2 news : Led} (B2 : BoxIn b l n2) (K : Keep [b, l] news n2) (q : Made k k2 n2 v σ'.news ∧ σ'.m = m) : ∃ n', σ' = ⟨m, n'⟩ ∧ AnyN b l news v n' :=
  ⟨σ'.news, q.2 ▸ rfl, el24 q.1 fun x dx e E S N => ⟨x, dx, e, ⟨⟨_, E, rfl⟩, B2.keep (as := []) (fun p hp _ => S p hp) List.not_mem_nil List.not_mem_nil, (K.trans fun p hp _ => S p hp).more fun _ h => List.mem_append_left [dx] h⟩, N.back K B2⟩⟩
theorem Args.take {c : FnS} {d : Dy} {σ : St} {e : PySem.Expr} {es : List PySem.Expr} {pos p1 p2 p4 : Pos} {b l : Addr} {many : Int} {P : List Value → St → Prop} (hr : 1 ≤ d.room) (hb : σ.m (Str.ofString "box") = some (.ref b)) (B : BoxIn b l σ.news) (he : EP c d σ e (IsI many)) (hm : 0 < many)
    (k : ∀ i t n', BoxIn b l n' → Keep [b, l] σ.news n' → Args c d ⟨σ.m, n'⟩ pos es (fun vs σ2 => P (.int i t :: vs) σ2))
    (hs : autoParam (starEach (.Call (.Name (Str.ofString "_law_take") p1) [.Name (Str.ofString "box") p2, e] [] p4 :: es) (env c d) = (false, eval (.Call (.Name (Str.ofString "_law_take") p1) [.Name (Str.ofString "box") p2, e] [] p4) (env c d)) :: starEach es (env c d)) tacR) (hs1 : autoParam (starEach [.Name (Str.ofString "box") p2, e] (env c d) = [(false, eval (.Name (Str.ofString "box") p2) (env c d)), (false, eval e (env c d))]) tacR) (hx : autoParam ((env c d).kindOf (Str.ofString "_law_take") = some .globalImplicit) tacR) (hy : autoParam ((env c d).kindOf (Str.ofString "box") = some .local) tacR) :
    Args c d σ pos (.Call (.Name (Str.ofString "_law_take") p1) [.Name (Str.ofString "box") p2, e] [] p4 :: es) P :=
  Args.cons (P₁ := fun v σ' => ∃ i t n', v = .int i t ∧ σ' = ⟨σ.m, n'⟩ ∧ BoxIn b l n' ∧ Keep [b, l] σ.news n') (EP.take hr hb B he hm (fun i v n' hv _ _ hB hK => hv.elim fun t e => ⟨i, t, n', e, rfl, hB, hK⟩) hs1 hx hy) (by rintro _ _ ⟨i, t, n', rfl, rfl, hB, hK⟩; exact k i t n' hB hK) hs
theorem any_c (w : World) {b l : Addr} {news : Led} (B : BoxIn b l news) : Con w 273 3 [.ref b] news (AnyR b l news) := by
  (refine' con_intro (binds := [(Str.ofString "box", .ref b)]) ?ho ?hcd ?hb ?hl ?c1 ?c2 ?c3 ?c4 ?_; (case ho => k_is); (case hcd => k_is); (case hb => exact fun s _ => BindsTo.of_eq rfl); (case hl => exact locs rfl); (case c1 => exact rfl); (case c2 => exact rfl); (case c3 => exact rfl); (case c4 => decide)); rintro d rfl hrm
  have r2 : 2 ≤ d.room := Nat.le_of_eq hrm.symm
  have r1 : 1 ≤ d.room := Nat.le_trans (by decide) r2
  refine Ex.assignK (P₁ := AnyN b l news) (EP.callG (EP.glob (g_exp _)) (k_exp _) (Args.take r1 rfl B EP.int (by decide) fun k t n1 B1 K1 => Args.take r1 rfl B1 EP.int (by decide) fun k2 t2 n2 B2 K2 => Args.nil (Tr.mono (Tr.newExp r2) fun v σ' q => any_new B2 (K1.trans K2) q))) fun v n3 h3 => el23 h3 fun x dx ev I3 N => ?_
  obtain ⟨⟨x1, x2⟩, -, -⟩ := B.new N
  subst ev
  refine Ex.putTake I3 N B i_number r1 rfl rfl (by decide) fun j n4 j0 j1 I4 => ?_
  rw [if_pos rfl] at I4
  refine Ex.ifJ (J := AnyJ b x dx l j news) (J2 := AnyJ b x dx l j news) (Tr.anyEq (EP.take r1 rfl I4.bx EP.int (by decide) fun i v n' hv _ _ hB hK => ⟨⟨i, hv⟩, rfl, rfl, I4.take x1 x2 hB hK⟩) (fun _ => EP.int)) (fun σ5 h => Ex.putTake h.i N B i_t r1 h.mb h.mx (by decide) fun j2 n6 _ _ I6 => Ex.nil ⟨rfl, h.mb, h.mx, I6⟩) (fun _ h => h) fun σ5 h => ?_
  refine Ex.ifJ (J := AnyJ b x dx l j news) (J2 := AnyJ b x dx l j news) (Tr.anyEq (EP.take r1 h.mb h.i.bx EP.int (by decide) fun i v n' hv _ _ hB hK => ⟨⟨i, hv⟩, h.mb, h.mx, h.i.take x1 x2 hB hK⟩) (fun _ => EP.int)) (fun σ5 h => Ex.putTake h.i N B i_f r1 h.mb h.mx (by decide) fun j2 n6 _ _ I6 => Ex.nil ⟨rfl, h.mb, h.mx, I6⟩) (fun _ h => h) fun σ6 h => ?_
  exact Ex.retB (EP.name h.mx) fun v e => h.i.ex.elim fun q hq => ⟨x, dx, q, e, hq.1, hq.2.symm ▸ ⟨j0, j1⟩, h.i.bx, fun p hp hn => h.i.kp p hp fun z => (List.mem_append.mp (show p.1 ∈ [b, l] ++ [dx] from z)).elim hn fun z => (N p hp).2 (List.mem_singleton.mp z), N⟩
end Mine

namespace Mine
open PySem PySem.W PySem.Spec PySem.Calls PyProof.Rows
theorem fill__j_Z8 : (PySem.Challenge.rw_nt0638_01, KK) = (PySem.Challenge.rw_nt0638_01, KK) := by k_fill; rfl
noncomputable def IsS (x : Str) (v : Value) : Prop := ∃ t, v = .str x t
theorem cmp_neS {x y : Str} : CmpOk .NotEq (IsS x) (IsS y) (x ≠ y) := by
  rintro w A s Q E _ _ ⟨t, rfl⟩ ⟨u, rfl⟩ k
  exact ne_str (k _ s.toks bne_iff_ne)
/-- the text of [u, whether 0 <= u] -/
noncomputable abbrev duo (u : Int) : PyData := .list [.int u, .bool (decide (0 ≤ u))]
theorem duo_ok {u : Int} (h : u = 1 ∨ u = 0 ∨ u = -1) : (duo u).showable = true ∧ (duo u).shown.length ≤ sizeLine ∧ (duo u).hasDict = false ∧ (duo u).depth ≤ 2 := by
  rcases h with rfl | rfl | rfl <;> exact ⟨by decide, by decide, by decide, by decide⟩
theorem Tr.reprL {c : FnS} {d : Dy} {σ : St} {e : PySem.Expr} {pos p1 : Pos} {u : Int} {J : St → Prop} (h : u = 1 ∨ u = 0 ∨ u = -1) (hr : 8 ≤ d.room) (he : Tr c d σ (eval e (env c d)) (fun v σ' => (∃ a t, v = .ref a ∧ (a, listOf (List.toArray [.int u t, .bool (decide (0 ≤ u))]) 0) ∈ σ'.news) ∧ J σ')) (hs : autoParam (starEach [e] (env c d) = [(false, eval e (env c d))]) tacR) (hx : autoParam ((env c d).kindOf (Str.ofString "repr") = some .globalImplicit) tacR) :
    Tr c d σ (eval (.Call (.Name (Str.ofString "repr") p1) [e] [] pos) (env c d)) (fun v σ' => IsS (duo u).shown v ∧ J σ') := by
  obtain ⟨h1, h2, h3, h4⟩ := duo_ok h
  refine EP.callB (EP.built (g_repr _) boot_repr (by decide) hx rfl) (Args.cons he ?_ hs) hs (by rw [hs]; rfl) rfl
  rintro _ σ' ⟨⟨a, t, rfl, hm⟩, hJ⟩
  refine Args.nil ?_
  intro s Q E H k
  obtain ⟨g, G⟩ := id H
  refine repr_HN (d := duo u) G.fr G.nw (Reads.list (G.nw _ hm).1 rfl rfl (.cons (.int _ _) (.cons (.bool _) .nil))) h3 h1 G.ok.guards ?_ (fun h' u' tk F N => ?_) h2
  · show d.A₀.units + 3 + _ < cLine
    exact Nat.lt_of_le_of_lt (Nat.add_le_add_left (Nat.le_trans (Nat.succ_le_succ h4) (Nat.le_trans (by decide : 3 ≤ 8 * 8) (Nat.mul_le_mul_left 8 hr))) _) G.ok.units
  · exact k _ σ' h' tk ⟨⟨_, rfl⟩, hJ⟩ (G.to F N)
section
variable {c : FnS} {d : Dy} {σ : St} {PU : Unit → St → Prop} {o : PySem.Expr} {pos : Pos} {x dx : Addr} {q : Str → Int} {name : Str} {i : Int} {t : Tok}
theorem Tr.aattr (E : ExpAt x dx q σ.news) (hn : name ∈ six) (ho : EP c d σ o (fun u => u = .ref x)) (k : ∀ n', ExpAt x dx (Mine.setF q name i) n' → Keep [dx] σ.news n' → PU () ⟨σ.m, n'⟩) : Tr c d σ (assign (.Attribute o name pos) (env c d) (.int i t)) PU := by
  intro s Q E' H r
  refine kas_attr (ho s _ E' H ?_)
  rintro _ σ' h' tk' ⟨rfl, rfl⟩ H'
  exact Tr.setF E (by decide) hn (.inr ⟨hn, Nat.le_refl _⟩) (fun n' E' K => k n' (E'.sub fun y hy => ⟨.tail _ hy, rfl⟩) K) { s with heap := h', toks := tk' } Q E' H' r
end
theorem g_neg (w : World) : nsIn (KK w.params) mainGlobals (Str.ofString "negate_sure") = some (some (.ref 196)) := by k_is
theorem k_neg (w : World) : keepIn (KK w.params) (.ref 196) = true := by k_is
theorem sure_three (k : Int) : sureF k = 1 ∨ sureF k = 0 ∨ sureF k = -1 := by
  unfold sureF
  split
  · exact .inl rfl
  · split
    · exact .inr (.inl rfl)
    · exact .inr (.inr rfl)
theorem sure_245 {k : Int} : k ∈ [2, 4, 5] ↔ k ∈ [4, 5, 2] := by
  simp only [List.mem_cons, List.not_mem_nil, or_false]
  exact ⟨fun h => or_assoc.mp h.symm, fun h => (or_assoc.mpr h).symm⟩
/-- negate_sure(exp) -/
theorem EP.negs {c : FnS} {d : Dy} {σ : St} {pos p1 p2 : Pos} {x dx : Addr} {q : Str → Int} {PV : Value → St → Prop} (E : ExpAt x dx q σ.news) (hr : 2 ≤ d.room) (hv : σ.m (Str.ofString "exp") = some (.ref x)) (k : ∀ v n', IsP (sureF (q (Str.ofString "kind")) ≠ -1) v → ExpAt x dx (negQ q) n' → Keep [dx] σ.news n' → PV v ⟨σ.m, n'⟩)
    (hx : autoParam ((env c d).kindOf (Str.ofString "negate_sure") = some .globalImplicit) tacR) (hy : autoParam ((env c d).kindOf (Str.ofString "exp") = some .local) tacR) : Tr c d σ (eval (.Call (.Name (Str.ofString "negate_sure") p1) [.Name (Str.ofString "exp") p2] [] pos) (env c d)) PV := by
  refine EP.callG (EP.glob (g_neg _) hx rfl) (k_neg _) (Args.v (EP.name hv hy rfl) (Args.nil (Tr.mono (Tr.call (negate_c d.w E) hr) ?_)))
  rintro v ⟨m, n⟩ ⟨⟨h1, h2, h3⟩, rfl⟩
  exact k v n h1 h2 h3
theorem neg_neg {q : Str → Int} (h : 0 ≤ sureF (q (Str.ofString "kind"))) : sureF (negQ (negQ q) (Str.ofString "kind")) = sureF (q (Str.ofString "kind")) := by
  have e : negQ q = setF q (Str.ofString "kind") (if sureF (q (Str.ofString "kind")) = 1 then 3 else 2) := if_neg fun z => by rw [z] at h; exact absurd h (by decide)
  rw [e]
  rcases sure_three (q (Str.ofString "kind")) with z | z | z <;> rw [z] at h ⊢
  · rfl
  · rfl
  · exact absurd h (by decide)
end Mine

namespace Mine
open PySem PySem.W PySem.Spec PySem.Calls PyProof.Rows
theorem fill__j_Z9 : (PySem.Challenge.rw_nt0638_01, KK) = (PySem.Challenge.rw_nt0638_01, KK) := by k_fill; rfl
theorem sure_le {u : Int} (sw : u = 1 ∨ u = 0 ∨ u = -1) : u ≠ -1 ↔ 0 ≤ u := by
  rcases sw with rfl | rfl | rfl <;> decide
structure KindJ (M : Str → Option Value) (x dx a : Addr) (q q' : Str → Int) (I : Addr) (o : Obj) (σ : St) : Prop where
  m : σ.m = M
  e : ExpAt x dx q' σ.news
  l : LI a (shown q) σ.news
  it : (I, o) ∈ σ.news
theorem kinds_c (w : World) {news : Led} : Con w 280 12 [] news (fun v _ => v = .bool true) := by
  (refine' con_intro (binds := []) ?ho ?hcd ?hb ?hl ?c1 ?c2 ?c3 ?c4 ?_; (case ho => k_is); (case hcd => k_is); (case hb => exact fun s _ => BindsTo.of_eq rfl); (case hl => exact locs rfl); (case c1 => exact rfl); (case c2 => exact rfl); (case c3 => exact rfl); (case c4 => decide)); rintro d rfl hrm
  have r8 : ∀ k, k ≤ 11 → k ≤ d.room := fun k h => hrm.symm ▸ h
  refine Ex.forRange (n := 15) EP.int (by decide) (fun _ _ => True) trivial ?_ (fun _ _ _ => Ex.retB EP.bool fun v e => e)
  rintro I - i t m nx - - -
  have sw := sure_three i
  generalize eu : sureF i = u at sw
  refine Ex.assignI (i := u) (EP.ifexp (TT.inTup (ns := [2, 4, 5]) EP.nameI (Args.p EP.int fun v1 h1 => Args.p EP.int fun v2 h2 => Args.p EP.int fun v3 h3 => Args.nil ⟨rfl, ints_cons h1 (ints_cons h2 (ints_cons h3 .nil))⟩) (by decide)) (fun h1 => ?_) fun h1 => EP.ifexp (TT.inTup (ns := [1, 3]) EP.nameI (Args.p EP.int fun v1 h1 => Args.p EP.int fun v2 h2 => Args.nil ⟨rfl, ints_cons h1 (ints_cons h2 .nil)⟩) (by decide)) (fun h2 => ?_) fun h2 => ?_) fun t2 => ?_
  · rw [← eu, show sureF i = 1 from if_pos (sure_245.mp h1)]; exact EP.int
  · rw [← eu, show sureF i = 0 from (if_neg fun z => h1 (sure_245.mpr z)).trans (if_pos h2)]; exact EP.int
  · rw [← eu, show sureF i = 0 - 1 from (if_neg fun z => h1 (sure_245.mpr z)).trans (if_neg h2)]; exact EP.bin EP.int EP.int op_sub
  refine Ex.assignK (P₁ := Made i 3 ((I, rgIt (i + 1) 15) :: nx)) (EP.callG (EP.glob (g_exp _)) (k_exp _) (Args.i EP.nameI fun t => Args.i EP.int fun t2 => Args.nil (Tr.mono (Tr.newExp (r8 2 (by decide))) fun v σ' r => ⟨σ'.news, by rw [← r.2], r.1⟩))) ?_
  rintro _ n1 ⟨x, dx, rfl, E1, S1, N1⟩
  refine Ex.tupA (Args.i EP.int fun t3 => Args.i EP.int fun t4 => Args.i EP.int fun t5 => Args.i EP.int fun t6 => Args.nil ⟨(by decide : 4 ≤ 1000), rfl, Tr.ocons (Tr.aattr E1 i_aux EP.name fun n2 E2 K2 => Tr.ocons (Tr.aattr E2 i_number EP.name fun n3 E3 K3 => Tr.ocons (Tr.aattr E3 i_t EP.name fun n4 E4 K4 => Tr.ocons (Tr.aattr E4 i_f EP.name fun n5 E5 K5 => Tr.onil ?_))))⟩)
  obtain ⟨q, hq⟩ : ∃ q, q = setF (setF (setF (setF (newQ i 3) (Str.ofString "aux") 4) (Str.ofString "number") 17) (Str.ofString "t") 5) (Str.ofString "f") 6 := ⟨_, rfl⟩
  rw [← hq] at E5
  have hk : sureF (q (Str.ofString "kind")) = u := by rw [hq]; exact eu
  have ni : I ∉ [dx] := fun z => (N1 _ (.head _)).2 (List.mem_singleton.mp z)
  have hI : (I, rgIt (i + 1) 15) ∈ n5 := K5 _ (K4 _ (K3 _ (K2 _ (S1 _ (.head _)) ni) ni) ni) ni
  refine Ex.assignL (EL.shown E5 (r8 1 (by decide)) EP.name) fun a n6 L6 S6 => ?_
  refine Tr.know fun U => ?_
  have E6 := E5.sub' S6
  have na : a ∉ [dx] := fun z => L6.ne U E6 (List.mem_singleton.mp z)
  refine Tr.gen fun M eM => ?_
  have mk : M (Str.ofString "kind") = some (.int i t) := at_ eM (Eq.refl (some (Value.int i t)))
  have md : M (Str.ofString "due") = some (.int u t2) := at_ eM (Eq.refl (some (Value.int u t2)))
  have mx : M (Str.ofString "exp") = some (.ref x) := at_ eM (Eq.refl (some (Value.ref x)))
  have ma : M (Str.ofString "ahead") = some (.ref a) := at_ eM (Eq.refl (some (Value.ref a)))
  clear eM U
  have bu : ∀ b : Bool, (b = true ↔ u ≠ -1) → b = decide (0 ≤ u) := fun b hb => Bool.eq_iff_iff.mpr ((hb.trans (sure_le sw)).trans decide_eq_true_iff.symm)
  refine Ex.pass (J := KindJ M x dx a q (negQ q) I (rgIt (i + 1) 15)) (TJ.cmp (Ra := IsS (duo u).shown) (Rb := IsS (duo u).shown) (Tr.reprL sw (r8 8 (by decide)) (EP.list (Args.p (R := IsI u) (EP.callP (g_sure _) (k_sure _) (k := 1) (r8 1 (by decide)) (Args.v (EP.name mk) (Args.nil ⟨rfl, eu ▸ sure_c _⟩))) fun v1 h1 => Args.cons (EP.negs (PV := fun v σ' => IsP (u ≠ -1) v ∧ KindJ M x dx a q (negQ q) I (rgIt (i + 1) 15) σ') E6 (r8 2 (by decide)) mx fun v n' hv hE hK => ⟨hk ▸ hv, rfl, hE, L6.keep hK na, hK _ (S6 _ hI) ni⟩) fun v2 σ' h2 => Args.nil ⟨(by decide : 2 ≤ 1000), fun a2 _ => ⟨h1.elim fun t7 e1 => h2.1.elim fun b hb => ⟨a2, t7, rfl, ?_⟩, h2.2.m, h2.2.e.sub' fun _ h => .tail _ h, h2.2.l.sub fun _ h => .tail _ h, .tail _ h2.2.it⟩⟩))) (fun σ' h => Tr.reprL sw (r8 8 (by decide)) (EP.list (Args.v (EP.name (h.m ▸ md)) (Args.p (EP.cmp (EP.nameI (h.m ▸ md)) EP.int cmp_ge) fun v2 h2 => Args.nil ⟨(by decide : 2 ≤ 1000), fun a2 _ => ⟨h2.elim fun b hb => ⟨a2, t2, rfl, ?_⟩, h.m, h.e.sub' fun _ h => .tail _ h, h.l.sub fun _ h => .tail _ h, .tail _ h.it⟩⟩)))) cmp_neS) (fun z => z rfl) ?_
  · rw [e1, hb.1, bu b hb.2]; exact .head _
  · rw [hb.1, Bool.eq_iff_iff.mpr (hb.2.trans decide_eq_true_iff.symm)]; exact .head _
  rintro ⟨M, n7⟩ ⟨rfl, E7, L7, I7⟩
  have hq0 : q (Str.ofString "kind") = i := by rw [hq]; rfl
  refine Ex.pass (J := fun σ' => σ' = ⟨M, n7⟩) (TT.toJ (TT.neL (EL.shown E7 (r8 1 (by decide)) (EP.name mx)) (fun σ' em hs => EL.add (EL.list (ns := [if u < 0 then (i : Int) else if u = 1 then 3 else 2]) (Args.p (EP.ifexp (TT.cmp (EP.nameI (em ▸ md)) EP.int cmp_lt) (fun h1 => ?_) fun h1 => EP.ifexp (TT.cmp (EP.nameI (em ▸ md)) EP.int cmp_eq) (fun h2 => ?_) fun h2 => ?_) fun v1 h1 => Args.nil ⟨rfl, ints_cons h1 .nil⟩) (show 1 ≤ 1000 by decide)) (fun σ2 em2 hs2 => EL.from (EL.name ((congrFun (em2.trans em) _).trans ma) (L7.sub (Sub.trans hs hs2))) (by decide) (Nat.le_of_ble_eq_true rfl)) (Nat.le_of_ble_eq_true rfl)) (r8 8 (by decide))) rfl) (fun z => z ?_) ?_
  · rw [if_pos h1]; exact EP.nameI (em ▸ mk)
  · rw [if_neg h1, if_pos h2]; exact EP.int
  · rw [if_neg h1, if_neg h2]; exact EP.int
  · unfold negQ
    rw [hk]
    rcases sw with rfl | rfl | rfl
    · rfl
    · rfl
    · show _ = [(i : Int)] ++ _
      rw [← hq0]; rfl
  rintro _ rfl
  refine Ex.expr (EP.negs E7 (r8 2 (by decide)) mx fun v n8 _ E8 K8 => ?_)
  refine Ex.pass (J := fun σ' => σ' = ⟨M, n8⟩) (TT.toJ (TT.and2 (TT.cmp (EP.nameI md) EP.int cmp_ge) fun _ => TT.cmp (EP.callP (R := IsI (sureF (negQ (negQ q) (Str.ofString "kind")))) (g_sure _) (k_sure _) (k := 1) (r8 1 (by decide)) (Args.i (EP.fld E8 i_kind i_kind (EP.name mx)) fun t => Args.nil ⟨rfl, sure_c _⟩)) (EP.nameI md) cmp_ne) rfl) (fun z => z.2 ((neg_neg (hk ▸ z.1)).trans hk)) ?_
  rintro _ rfl
  exact Ex.nil ⟨rfl, [], fun p hp => List.mem_singleton.mp hp ▸ K8 _ I7 ni, fun _ h => (nomatch h), trivial⟩
end Mine

namespace Mine
open PySem PySem.W PySem.Spec PySem.Calls PyProof.Rows
theorem fill__j_W0 : (PySem.Challenge.rw_nt0638_01, KK) = (PySem.Challenge.rw_nt0638_01, KK) := by k_fill; rfl
section
variable {c : FnS} {d : Dy} {σ : St} {P : Flow → St → Prop} {rest body : List Stmt} {e : PySem.Expr} {pos sp p1 p2 p3 p4 p5 p6 : Pos} {ns : List Int} {x : Str} {l : Addr} {vs : List Value} {k : Nat} {i : Int}
/-- the script, cut -/
theorem EL.script (hl : d.base.IsList l vs.toArray) (hi : IntsAre vs ns) (hz : ns.length ≤ 1000) (hv : σ.m x = some (.ref l)) (h0 : 0 ≤ i) (hx : autoParam ((env c d).kindOf x = some .local) tacR) (hd : autoParam ((x == ("__debug__" : Str)) = false) tacR) : EL c d σ (.Subscript (.Name x p1) (.Slice none (some (.Constant (.int i) k p2)) none sp) pos) (ns.take i.toNat) := by
  intro s Q E H r
  refine Subscript_ (EP.name hv hx hd s _ E H ?_)
  rintro _ σ' h' tk' ⟨rfl, rfl⟩ H'
  refine wpAny_Slice (part_none { s with heap := h', toks := tk' } _ E H' ?_)
  rintro vl _ h2 tk2 ⟨pl, rfl⟩ H2
  refine part_int { s with heap := h2, toks := tk2 } _ E H2 ?_
  rintro vu _ h3 tk3 ⟨pu, rfl⟩ H3
  obtain ⟨g, G⟩ := H3
  obtain ⟨o, ho, hoc⟩ := hl
  refine wpAny_pure ?_
  refine kmk_slice (s := { s with heap := h3, toks := tk3 }) G.fr G.nw ⟨o, G.fr.keep _ _ (G.bl.stays _ _ ho), hoc⟩ pl pu (fun D h4 F4 N4 lt => ?_) rfl (fun r => rfl) (len_fits (by rw [List.size_toArray, hi.length]; exact hz))
  exact r _ ⟨σ.m, (D, listOf (slicePick vs.toArray none (some i) none) 0) :: σ.news⟩ h4 tk3 ⟨⟨D, rfl, _, by rw [Array.toArray_toList]; exact .head _, kmk_upto hi h0⟩, rfl, fun p hp => .tail _ hp⟩ (G.to F4 N4)
theorem ints_at {ns : List Int} (h : IntsAre vs ns) : ∀ {k : Nat} {v : Value}, vs[k]? = some v → ∃ i, IsI i v := by
  induction h with
  | nil => intro k v q; exact nomatch (List.getElem?_nil.symm.trans q : none = some v)
  | cons n t _ ih =>
    intro k v q
    cases k with
    | zero => exact ⟨n, t, (Option.some.inj q).symm⟩
    | succ k => exact ih q
/-- for x in (a list of ints) -/
theorem Ex.forInts {px : Pos} (he : EL c d σ e ns) (J : St → Prop) (h0 : ∀ n', Sub σ.news n' → J ⟨σ.m, n'⟩) (hz : ns.length ≤ 1000)
    (turn : ∀ I o i t m nx, J ⟨m, nx⟩ → (∀ p ∈ nx, p.1 ≠ I) → ∀ l vs, IntsAre vs ns → (l, listOf (List.toArray vs) 0) ∈ nx → Tr c d ⟨upd m x (.int i t), (I, o) :: nx⟩ (execs body (env c d)) (RTurn I o (fun σ' => J σ' ∧ (l, listOf (List.toArray vs) 0) ∈ σ'.news)))
    (done : ∀ m nx, J ⟨m, nx⟩ → Tr c d ⟨m, nx⟩ (execs rest (env c d)) P)
    (hx : autoParam ((env c d).kindOf x = some .local) tacR) (hs : ∀ v, foldedSetIterable e (env c d) v = Pure.pure v := by exact fun _ => rfl) :
    Tr c d σ (execs (.For (.Name x px) e body [] pos :: rest) (env c d)) P := by
  refine Ex.cons ?_
  intro s Q E H r
  refine wpAny_noRaise (wpAny_For (he s _ _ H ?_) hs)
  rintro _ ⟨m1, n1⟩ h1 tk1 ⟨⟨l, rfl, vs, hm, hi⟩, rfl, hsub⟩ H1
  obtain ⟨g, G⟩ := id H1
  have hL := News.isList G.nw hm
  refine wpAny_pyIter_list hL ?_
  have hlt : ∀ p ∈ n1, p.1 < h1.objs.size := fun p hp => Heap.lt_size (G.nw p hp).1
  have j0 := h0 n1 hsub
  refine for_run (σ := ⟨σ.m, n1⟩) (hold := [(l, listOf (List.toArray vs) 0)]) (K := fun i o => o.cls = .type "list_iterator" ∧ o.data = .fields #[.ref l, .int i 0]) (J := fun _ σ' => J σ' ∧ (l, listOf (List.toArray vs) 0) ∈ σ'.news)
    (Walks.list (prog := PySem.Challenge.rw_nt0638_01.row.prog) (w := d.w) (A := Ar c d) G.ok.handled h1.objs.size l (Nat.ne_of_lt (hlt _ hm)) vs.toArray) (fun i h o e k q => ⟨⟨o, e, k⟩, ⟨_, q _ (.head _), rfl, 0, rfl⟩⟩) (fun i h st => st.1) (fun _ σ' hj p hp => List.mem_singleton.mp hp ▸ hj.2) ?_ hx (G.to (G.fr.push _) (G.nw.push G.fr _)) ⟨rfl, rfl⟩ ⟨j0, hm⟩ (fun p hp => Nat.ne_of_lt (hlt p hp)) fun m nx h' tk' hj H' => r .next ⟨m, nx⟩ h' tk' (done m nx hj.1) H'
  rintro i v o m nx hin hv - ⟨hj, hl⟩ hne
  obtain ⟨k, t, rfl⟩ := ints_at hi (by rw [List.getElem?_toArray] at hv; exact hv)
  exact turn _ o k t m nx hj hne l vs hi hl
end
theorem paired_ints {l₁ l₂ : List Value} (h : Paired (fun _ y => ∃ i, IsI i y) l₁ l₂) : ∀ v ∈ l₂, ∃ i, IsI i v := fun v hv => (h.right v hv).elim fun _ y => y
theorem compB {c : FnS} {d : Dy} {g : Heap} {s : Shared} {A : Around} {C : Addr} {scope : Scope} {x : Str} {v : Value} {pos : Pos} {Q : Value → Shared → Prop} {E : Value → Shared → Prop} (X : (KK d.w.params).In g) (T : TopRead hd.view_39 (looseW hd.view_39 [Str.ofString "FOLDED"]) d.mg d.mb g) (keep : ∀ b o, g.get? b = some o → s.heap.get? b = some o)
    (e : nsIn (KK d.w.params) mainGlobals x = some none) (hv : bootBuiltins x = some v) (hn : x ≠ "__name__") (hk : (compEnvC scope [] C (env c d)).scope.kind = .function) (hx : (compEnvC scope [] C (env c d)).kindOf x = some .globalImplicit) (hd : (x == ("__debug__" : Str)) = false) (h : Q v s) :
    wpAny (model PySem.Challenge.rw_nt0638_01.row.prog d.w) A (eval (.Name x pos) (compEnvC scope [] C (env c d))) Q E s :=
  Name_function_global hk hx (loadGlobal_builtin (env := compEnvC scope [] C (env c d)) (T.g.keeps keep) (mg_none_of X T.g e) (T.b.keeps keep) ((T.builtins x hn).trans hv) h) hd
noncomputable def absInt (p1 p2 p3 p4 p5 : Pos) : PySem.Expr := .Call (.Name (Str.ofString "abs") p1) [.Call (.Name (Str.ofString "int") p2) [.Name (Str.ofString "number") p3] [] p4] [] p5
theorem absInt_at {c : FnS} {d : Dy} {g : Heap} {s : Shared} {A : Around} {C : Addr} {scope : Scope} {p1 p2 p3 p4 p5 : Pos} {i : Int} {t : Tok} {m : Str → Option Value} {Q : Value → Shared → Prop} {E : Value → Shared → Prop} (X : (KK d.w.params).In g) (T : TopRead hd.view_39 (looseW hd.view_39 [Str.ofString "FOLDED"]) d.mg d.mb g) (keep : ∀ b o, g.get? b = some o → s.heap.get? b = some o)
    (hk : (compEnvC scope [] C (env c d)).scope.kind = .function) (h1 : (compEnvC scope [] C (env c d)).kindOf (Str.ofString "abs") = some .globalImplicit) (h2 : (compEnvC scope [] C (env c d)).kindOf (Str.ofString "int") = some .globalImplicit) (h3 : (compEnvC scope [] C (env c d)).kindOf (Str.ofString "number") = some .local) (hm : s.heap.Ns C m) (hv : m (Str.ofString "number") = some (.int i t)) (k : ∀ v tk, (∃ j, IsI j v) → Q v { s with toks := tk }) :
    wpAny (model PySem.Challenge.rw_nt0638_01.row.prog d.w) A (eval (absInt p1 p2 p3 p4 p5) (compEnvC scope [] C (env c d))) Q E s := by
  refine Call_ (compB X T keep (g_abs _) boot_abs (by decide) hk h1 rfl ?_) rfl
  refine Calls.callWith_builtin rfl (Calls.evalArgs_plain (args_cons (Call_ (compB X T keep (g_int _) boot_int (by decide) hk h2 rfl ?_) rfl) rfl))
  refine callWith_type1 (args_cons (wpAny_Name (wpAny_loadName_local hk h3 hm hv (args_nil ?_)) rfl) rfl) rfl rfl
  exact call_int_int (args_nil (call_abs_int fun u tk => k _ tk ⟨_, u, rfl⟩))
end Mine

namespace Mine
open PySem PySem.W PySem.Spec PySem.Calls PyProof.Rows
theorem fill__j_W2 : (PySem.Challenge.rw_nt0638_01, KK) = (PySem.Challenge.rw_nt0638_01, KK) := by k_fill; rfl
/-- a Limits under way -/
structure LimI (x dx : Addr) (wd : Int) (news : Led) (len : Nat) (n : Led) : Prop where
  ne : x ≠ dx
  ex : ∃ es k t, (x, instObj 109 dx) ∈ n ∧ (dx, dictOf es k) ∈ n ∧ es.length ≤ len ∧ es.any (·.refKey) = false ∧ getL (Str.ofString "width") es = some (some (.int wd t))
  kp : Keep [dx] news n
section
variable {c : FnS} {d : Dy} {σ : St} {P : Flow → St → Prop} {rest : List Stmt} {x dx : Addr} {wd : Int} {news : Led} {len : Nat} {name y : Str} {v : Value} {p1 p2 p3 pos : Pos}
/-- self.name = y -/
theorem Ex.limSet (S : SetOk d.w 109 name) (I : LimI x dx wd news len σ.news) (hl : len ≤ 800) (hn : name ≠ Str.ofString "width") (hs : σ.m (Str.ofString "self") = some (.ref x)) (hy : σ.m y = some v) (k : ∀ n', LimI x dx wd news (len + 1) n' → Tr c d ⟨σ.m, n'⟩ (execs rest (env c d)) P)
    (h1 : autoParam ((env c d).kindOf (Str.ofString "self") = some .local) tacR) (h2 : autoParam ((env c d).kindOf y = some .local) tacR) (hd : autoParam ((y == ("__debug__" : Str)) = false) tacR) (hw : autoParam (swapsWith (.Name y p1) (some (.Attribute (.Name (Str.ofString "self") p2) name p3)) pos.line (env c d) = Pure.pure false) tacR) :
    Tr c d σ (execs (.Assign [.Attribute (.Name (Str.ofString "self") p2) name p3] (.Name y p1) pos :: rest) (env c d)) P := by
  obtain ⟨ne, ⟨es, k1, t, m1, m2, l1, r1, g1⟩, kp⟩ := I
  refine Ex.attr (EP.name hy h2 hd) (EP.name hs h1 rfl) ?_ hw
  rintro _ rfl
  exact Tr.setAttr S m1 ne m2 (getL_some r1) (Nat.le_trans l1 (Nat.le_trans hl (by decide))) fun h t' => k _ ⟨ne, ⟨_, _, t, .tail _ (mem_rest m1 ne), .head _, Nat.le_trans putL_len (Nat.succ_le_succ l1), (putL_any _ _ _ _ _).trans r1, (getL_put_other hn).trans g1⟩, kp.trans (keep_put (.head _))⟩
end
theorem lim_set (w : World) (name : Str) (tk : takerIn (KK w.params) 109 name = some none) : SetOk w 109 name := ⟨by k_is, by k_is, tk, by k_is⟩
theorem t_width (w : World) : takerIn (KK w.params) 109 (Str.ofString "width") = some none := by k_is
theorem t_registers (w : World) : takerIn (KK w.params) 109 (Str.ofString "registers") = some none := by k_is
theorem t_upvalues (w : World) : takerIn (KK w.params) 109 (Str.ofString "upvalues") = some none := by k_is
theorem t_local_names (w : World) : takerIn (KK w.params) 109 (Str.ofString "local_names") = some none := by k_is
theorem t_ccalls (w : World) : takerIn (KK w.params) 109 (Str.ofString "ccalls") = some none := by k_is
theorem t_frames (w : World) : takerIn (KK w.params) 109 (Str.ofString "frames") = some none := by k_is
theorem t_stack (w : World) : takerIn (KK w.params) 109 (Str.ofString "stack") = some none := by k_is
theorem t_flush (w : World) : takerIn (KK w.params) 109 (Str.ofString "flush") = some none := by k_is
theorem t_steps (w : World) : takerIn (KK w.params) 109 (Str.ofString "steps") = some none := by k_is
theorem t_text (w : World) : takerIn (KK w.params) 109 (Str.ofString "text") = some none := by k_is
theorem liminit_c (w : World) {x dx : Addr} {wd : Int} {t : Tok} {news : Led} (hne : x ≠ dx) : ConA w 92 1 ⟨[.ref x], [(Str.ofString "width", .int wd t)]⟩ ((x, instObj 109 dx) :: (dx, dictOf [] 0) :: news) (fun r n' => r = .none ∧ LimI x dx wd ((x, instObj 109 dx) :: (dx, dictOf [] 0) :: news) 10 n') := by
  (refine' con_intro (binds := [(Str.ofString "self", .ref x), (Str.ofString "width", .int wd t), (Str.ofString "registers", .int 250 311), (Str.ofString "upvalues", .int 60 312), (Str.ofString "local_names", .int 200 313), (Str.ofString "ccalls", .int 40 314), (Str.ofString "frames", .int 200 315), (Str.ofString "stack", .int 2000 316), (Str.ofString "flush", .int 50 317), (Str.ofString "steps", .int 1000000000 318), (Str.ofString "text", .int 1000000 319)]) ?ho ?hcd ?hb ?hl ?c1 ?c2 ?c3 ?c4 ?_; (case ho => k_is); (case hcd => k_is); (case hb => exact fun s X => binds_K X rfl (by k_is) rfl rfl rfl); (case hl => exact locs rfl); (case c1 => exact rfl); (case c2 => exact rfl); (case c3 => exact rfl); (case c4 => decide)); rintro d rfl hrm
  refine Tr.gen fun M eM => ?_
  have ms : M (Str.ofString "self") = some (.ref x) := (congrFun eM _).trans rfl
  have mw : M (Str.ofString "width") = some (.int wd t) := (congrFun eM _).trans rfl
  have m0 : M (Str.ofString "registers") = some (.int 250 311) := (congrFun eM _).trans rfl
  have m1 : M (Str.ofString "upvalues") = some (.int 60 312) := (congrFun eM _).trans rfl
  have m2 : M (Str.ofString "local_names") = some (.int 200 313) := (congrFun eM _).trans rfl
  have m3 : M (Str.ofString "ccalls") = some (.int 40 314) := (congrFun eM _).trans rfl
  have m4 : M (Str.ofString "frames") = some (.int 200 315) := (congrFun eM _).trans rfl
  have m5 : M (Str.ofString "stack") = some (.int 2000 316) := (congrFun eM _).trans rfl
  have m6 : M (Str.ofString "flush") = some (.int 50 317) := (congrFun eM _).trans rfl
  have m7 : M (Str.ofString "steps") = some (.int 1000000000 318) := (congrFun eM _).trans rfl
  have m8 : M (Str.ofString "text") = some (.int 1000000 319) := (congrFun eM _).trans rfl
  clear eM
  refine Ex.attr (EP.name mw) (EP.name ms) ?_
  rintro _ rfl
  refine Tr.setAttr (lim_set _ _ (t_width _)) (.head _) hne (.tail _ (.head _)) rfl (by decide) fun h t' => ?_
  refine Ex.limSet (len := 1) (news := (x, instObj 109 dx) :: (dx, dictOf [] 0) :: news) (lim_set _ _ (t_registers _)) ⟨hne, ⟨_, _, t, .tail _ (mem_rest (.head _) hne), .head _, Nat.le_refl _, rfl, getL_put_same⟩, keep_put (.head _)⟩ (by decide) (by decide) ms m0 fun n2 I2 => ?_
  refine Ex.limSet (lim_set _ _ (t_upvalues _)) I2 (by decide) (by decide) ms m1 fun n3 I3 => ?_
  refine Ex.limSet (lim_set _ _ (t_local_names _)) I3 (by decide) (by decide) ms m2 fun n4 I4 => ?_
  refine Ex.limSet (lim_set _ _ (t_ccalls _)) I4 (by decide) (by decide) ms m3 fun n5 I5 => ?_
  refine Ex.limSet (lim_set _ _ (t_frames _)) I5 (by decide) (by decide) ms m4 fun n6 I6 => ?_
  refine Ex.limSet (lim_set _ _ (t_stack _)) I6 (by decide) (by decide) ms m5 fun n7 I7 => ?_
  refine Ex.limSet (lim_set _ _ (t_flush _)) I7 (by decide) (by decide) ms m6 fun n8 I8 => ?_
  refine Ex.limSet (lim_set _ _ (t_steps _)) I8 (by decide) (by decide) ms m7 fun n9 I9 => ?_
  refine Ex.limSet (lim_set _ _ (t_text _)) I9 (by decide) (by decide) ms m8 fun n10 I10 => ?_
  exact Ex.nil ⟨rfl, I10⟩
end Mine

namespace Mine
open PySem PySem.W PySem.Spec PySem.Calls PyProof.Rows
theorem fill__j_W3 : (PySem.Challenge.rw_nt0638_01, KK) = (PySem.Challenge.rw_nt0638_01, KK) := by k_fill; rfl
section
variable {c : FnS} {d : Dy} {σ : St} {e iter : PySem.Expr} {ns : List Int} {p1 p2 p3 p4 p5 px pos : Pos} {scope : Scope} {i : Int}
/-- [abs(int(number)) for number in iter] -/
theorem Tr.absList (he : EL c d σ iter ns) (hz : ns.length ≤ 100) (hclos : closureFor scope (env c d) = Pure.pure []) (hcell : ∀ y ∈ scope.names, y.2 ≠ .cell) (hkind : scope.kind = .function) (hnames : ∀ y ∈ scope.names, y.2 = .local → scope.names.lookup y.1 = some .local) (hx : scope.names.lookup (Str.ofString "number") = some .local)
    (hs : ∀ x, foldedSetIterable iter (env c d) x = Pure.pure x) (k2 : ∀ C, (compEnvC scope [] C (env c d)).scope.kind = .function ∧ (compEnvC scope [] C (env c d)).kindOf (Str.ofString "abs") = some .globalImplicit ∧ (compEnvC scope [] C (env c d)).kindOf (Str.ofString "int") = some .globalImplicit ∧ (compEnvC scope [] C (env c d)).kindOf (Str.ofString "number") = some .local) :
    Tr c d σ (eval (.ListComp (absInt p1 p2 p3 p4 p5) [⟨.Name (Str.ofString "number") px, iter, [], 0⟩] scope pos) (env c d)) (fun v σ' => ∃ D vs n n', v = .ref D ∧ σ' = ⟨σ.m, (D, listOf (List.toArray vs) n) :: n'⟩ ∧ vs.length ≤ 100 ∧ ∀ v ∈ vs, ∃ i, IsI i v) := by
  intro s Q E H r
  refine wpAny_ListComp_free (fun _ => true) (fun _ y => ∃ i, IsI i y) hclos hcell hkind hnames hx (he s _ E H ?_) hs
  rintro _ ⟨m1, n1⟩ h1 tk1 ⟨⟨l, rfl, vs, hm, hi⟩, rfl, -⟩ H1
  obtain ⟨g, G⟩ := id H1
  have hL := News.isList G.nw hm
  have hlt : l < h1.objs.size := Heap.lt_size (G.nw _ hm).1
  have up : ∀ h3 : Heap, (∀ b o, b ∉ [h1.objs.size] → (h1.push { cls := .type "list_iterator", data := .fields #[.ref l, .int 0 0] }).get? b = some o → h3.get? b = some o) → ∀ b o, h1.get? b = some o → h3.get? b = some o :=
    fun h3 hk b o e => hk b o (fun hm => by rw [List.mem_singleton.mp hm] at e; exact Nat.lt_irrefl _ (Heap.lt_size e)) (Heap.get?_push_of_some _ e)
  have hsz : vs.length ≤ 100 := hi.length ▸ hz
  refine wpAny_pyIter_list hL ⟨h1.objs.size, [h1.objs.size, l], [h1.objs.size], vs.toArray.size, _, _, rfl, Walks.list (prog := PySem.Challenge.rw_nt0638_01.row.prog) (w := d.w) (A := Ar c d) G.ok.handled _ _ (Nat.ne_of_lt hlt) vs.toArray, len_fits (by rw [List.size_toArray]; exact Nat.le_trans hsz (by decide)), ⟨⟨_, Heap.get?_push_size _ rfl, rfl, rfl⟩, hL.push _⟩, ?_, ⟨?_, ?_⟩, ?_⟩
  · intro b hb
    show b < (h1.push _).objs.size
    rw [Heap.size_push]
    rcases List.mem_cons.mp hb with rfl | hb
    · exact Nat.lt_succ_self _
    · rw [List.mem_singleton.mp hb]; exact Nat.lt_succ_of_lt hlt
  · intro C i v s₃ m₃ E' _ _ _ _ _ _
    exact wpAny_pure ⟨rfl, s₃.heap, s₃.toks, rfl, fun _ _ h => h⟩
  · intro C i v s₃ m₃ E' _ hP _ hn hm3 hk _
    obtain ⟨j, t, rfl⟩ := ints_at hi (by rw [List.getElem?_toArray] at hP; exact hP)
    obtain ⟨k3, k4, k5, k6⟩ := k2 C
    exact absInt_at G.x G.tr (fun b o e => up _ hk b o (G.fr.keep b o e)) k3 k4 k5 k6 hn hm3 fun v tk hv => ⟨hv, s₃.heap, tk, rfl, fun _ _ h => h⟩
  · intro D h' tk ys vs' hnew _ hpl hlen _ hF hk
    obtain ⟨n, e⟩ := hpl
    have keep := up h' hk
    have hD : h1.get? D = Option.none := by
      cases z : h1.get? D with
      | none => rfl
      | some o => rw [Heap.get?_push_of_some _ z] at hnew; cases hnew
    have hl := hF.length
    rw [List.filter_eq_self.mpr fun _ _ => rfl] at hl
    refine r _ ⟨σ.m, (D, listOf (List.toArray ys.toList) n) :: n1⟩ h' tk ⟨D, ys.toList, n, n1, rfl, rfl, ?_, paired_ints hF⟩ (G.to (G.fr.keeps keep) (News.more (G.fr.keeps keep) (fun p hp => ⟨keep _ _ (G.nw p hp).1, (G.nw p hp).2⟩) (by rw [Array.toArray_toList]; exact e) (fun _ _ z => nomatch z) (kts_none G.fr.keep hD)))
    rw [← hl, hlen, List.size_toArray]; exact hsz
/-- int(e) of an int -/
theorem EP.intOf (he : EP c d σ e (IsI i)) (hs : autoParam (starEach [e] (env c d) = [(false, eval e (env c d))]) tacR) (hx : autoParam ((env c d).kindOf (Str.ofString "int") = some .globalImplicit) tacR) : EP c d σ (.Call (.Name (Str.ofString "int") p1) [e] [] pos) (IsI i) := by
  intro s Q E H r
  refine Call_ (EP.built (g_int _) boot_int (by decide) hx rfl s _ _ H ?_) rfl
  rintro _ σ' h1 tk1 ⟨rfl, rfl⟩ H1
  refine callWith_type1 ?_ hs rfl
  refine Args.p (P := fun vs σ' => σ = σ' ∧ ∃ t, vs = [.int i t]) he (by rintro _ ⟨t, rfl⟩; exact Args.nil ⟨rfl, t, rfl⟩) hs { s with heap := h1, toks := tk1 } _ _ H1 ?_
  rintro _ σ' h2 tk2 ⟨rfl, t, rfl⟩ H2
  exact call_int_int (r _ σ h2 tk2 ⟨⟨t, rfl⟩, rfl⟩ H2)
theorem h_lim (w : World) : makesIn (KK w.params) 109 = true ∧ findIn (KK w.params) (.ref 109) "__init__" = some (some (.ref 92)) ∧ isFn (KK w.params) (.ref 92) = true := ⟨by k_is, by k_is, by k_is⟩
theorem g_lim (w : World) : nsIn (KK w.params) mainGlobals (Str.ofString "Limits") = some (some (.ref 109)) := by k_is
theorem k_lim (w : World) : keepIn (KK w.params) (.ref 109) = true := by k_is
/-- Limits(width=width) -/
theorem EP.limits {wd : Int} {t : Tok} {PV : Value → St → Prop} (hr : 2 ≤ d.room) (hv : σ.m (Str.ofString "width") = some (.int wd t)) (k : ∀ lim dl n', LimAt lim dl wd n' → Sub σ.news n' → New lim dl σ.news → PV (.ref lim) ⟨σ.m, n'⟩) (hx : autoParam ((env c d).kindOf (Str.ofString "Limits") = some .globalImplicit) tacR) (hy : autoParam ((env c d).kindOf (Str.ofString "width") = some .local) tacR) :
    Tr c d σ (eval (.Call (.Name (Str.ofString "Limits") p1) [] [⟨some (Str.ofString "width"), .Name (Str.ofString "width") p2, p3⟩] pos) (env c d)) PV := by
  obtain ⟨h1, h2, h3⟩ := h_lim d.w
  intro s Q E H r
  refine wpAny_Call_Name_kw (EP.glob (g_lim _) hx rfl s _ _ H ?_)
  rintro _ σ' h' tk' ⟨rfl, rfl⟩ H'
  obtain ⟨g, G⟩ := id H'
  refine callWith_KW0 G.x (k_lim _) rfl (kwAll_cons (EP.name hv hy rfl { s with heap := h', toks := tk' } _ E H' ?_))
  rintro _ σ' h2' tk2 ⟨rfl, rfl⟩ H2
  obtain ⟨g2, G2⟩ := id H2
  refine kwAll_nil ⟨G2.xh, ?_⟩
  refine Tr.make (vs := []) (kw := [(Str.ofString "width", .int wd t)]) (PW := fun v n' => ∃ lim dl, v = .ref lim ∧ LimAt lim dl wd n' ∧ Sub σ.news n' ∧ New lim dl σ.news) h1 h2 h3 hr (fun x dx l1 l2 => (liminit_c d.w (Nat.ne_of_gt l2)).mono ?_) { s with heap := h2', toks := tk2 } Q E H2 ?_
  · rintro v n' ⟨hv, ne, ⟨es, k, t, m1, m2, -, -, g1⟩, kp⟩
    exact ⟨hv, x, dx, rfl, ⟨ne, es, k, t, m1, m2, g1⟩, fun p hp => kp p (.tail _ (.tail _ hp)) fun z => Nat.ne_of_lt (l1 p hp) (List.mem_singleton.mp z), fun p hp => ⟨Nat.ne_of_lt (Nat.lt_trans (l1 p hp) l2), Nat.ne_of_lt (l1 p hp)⟩⟩
  · rintro v ⟨m, n'⟩ h5 tk5 ⟨⟨lim, dl, rfl, L, S, N⟩, rfl⟩ H5
    exact r _ ⟨σ.m, n'⟩ h5 tk5 (k lim dl n' L S N) H5
end
theorem LimAt.ne' {lim dl I : Addr} {wd : Int} {n : Led} (L : LimAt lim dl wd n) (h : ∀ p ∈ n, p.1 ≠ I) : lim ≠ I ∧ dl ≠ I := let ⟨_, _, _, _, a, b, _⟩ := L; ⟨h _ a, h _ b⟩
theorem el15 {α0 : Type} {P0 P1 P2 P3 P4 : α0 → Prop} {G : Prop} (h : ∃ x0, P0 x0 ∧ P1 x0 ∧ P2 x0 ∧ P3 x0 ∧ P4 x0) (k : ∀ x0, P0 x0 → P1 x0 → P2 x0 → P3 x0 → P4 x0 → G) : G := by
  obtain ⟨x0, h0, h1, h2, h3, h4⟩ := h
  exact k x0 h0 h1 h2 h3 h4
/-- behind the fold of the law's second loop -/
structure LoopS (M : Str → Option Value) (x dx y dy a1 a2 b l lim dl I : Addr) (o : Obj) (q' q r : Str → Int) (wd : Int) (σ : St) : Prop where
  m : σ.m = M
  e1 : ExpAt x dx q' σ.news
  e2 : ExpAt y dy r σ.news
  l1 : LI a1 (shown q) σ.news
  l2 : LI a2 (shown r) σ.news
  bx : BoxIn b l σ.news
  li : LimAt lim dl wd σ.news
  it : (I, o) ∈ σ.news
/-- what stands between the law's statements -/
structure LawI (b l lim dl : Addr) (wd : Int) (σ : St) : Prop where
  mb : σ.m (Str.ofString "box") = some (.ref b)
  ml : σ.m (Str.ofString "limits") = some (.ref lim)
  mw : ∃ t, σ.m (Str.ofString "width") = some (.int wd t)
  bx : BoxIn b l σ.news
  li : LimAt lim dl wd σ.news
  ap : lim ∉ [b, l] ∧ dl ∉ [b, l]
theorem g_bool (w : World) : nsIn (KK w.params) mainGlobals (Str.ofString "bool") = some none := by k_is
theorem BoxIn.sub' {b l : Addr} {n n' : Led} (B : BoxIn b l n) (k : Sub n n') : BoxIn b l n' := B.keep (as := []) (fun p hp _ => k p hp) (fun h => (nomatch h)) (fun h => (nomatch h))
theorem BoxIn.ne' {b l I : Addr} {n : Led} (B : BoxIn b l n) (h : ∀ p ∈ n, p.1 ≠ I) : I ∉ [b, l] := by
  obtain ⟨-, ⟨_, _, _, hb, -⟩, ⟨_, _, hl, -⟩⟩ := B
  intro z
  rcases List.mem_cons.mp z with e | e
  · exact h _ hb e.symm
  · exact h _ hl (List.mem_singleton.mp e).symm
theorem keep_rest {I : Addr} {n : Led} : Keep [I] n (rest I n) := fun p hp hn => mem_rest hp fun e => hn (List.mem_singleton.mpr e)
/-- the law's state but for the iterator -/
theorem LawI.drop {b l lim dl I : Addr} {wd : Int} {σ : St} (L : LawI b l lim dl wd σ) (h1 : I ∉ [b, l]) (h2 : lim ≠ I ∧ dl ≠ I) : LawI b l lim dl wd ⟨σ.m, rest I σ.news⟩ :=
  have e : ∀ a, a ≠ I → a ∉ [I] := fun a h z => h (List.mem_singleton.mp z)
  ⟨L.mb, L.ml, L.mw, L.bx.keep keep_rest (e _ fun z => h1 (z ▸ .head _)) (e _ fun z => h1 (z ▸ .tail _ (.head _))), L.li.keep keep_rest (e _ h2.1) (e _ h2.2), L.ap⟩
theorem RTurn.mk {I : Addr} {o : Obj} {J : St → Prop} {σ : St} (hI : (I, o) ∈ σ.news) (hJ : J ⟨σ.m, rest I σ.news⟩) : RTurn I o J .next σ :=
  ⟨rfl, rest I σ.news, fun p hp => (List.mem_cons.mp hp).elim (fun e => e ▸ hI) (rest_sub p), rest_ne, hJ⟩
theorem Ex.assignE {c : FnS} {d : Dy} {σ : St} {e : PySem.Expr} {rest : List Stmt} {P : Flow → St → Prop} {x : Str} {px pos : Pos} {R : Value → Prop} (he : EP c d σ e R) (k : ∀ v, R v → Tr c d ⟨upd σ.m x v, σ.news⟩ (execs rest (env c d)) P)
    (hx : autoParam ((env c d).kindOf x = some .local) tacR) (hs : autoParam (swapsWith e (some (.Name x px)) pos.line (env c d) = Pure.pure false) tacR) : Tr c d σ (execs (.Assign [.Name x px] e pos :: rest) (env c d)) P :=
  Ex.assign he (by rintro v σ' ⟨hv, rfl⟩; exact k v hv) hx hs
theorem EP.call0 {c : FnS} {d : Dy} {σ : St} {pos p1 : Pos} {fa : Addr} {fn : Str} {k : Nat} {PW : Value → Led → Prop} (g : nsIn (KK d.w.params) mainGlobals fn = some (some (.ref fa))) (kf : keepIn (KK d.w.params) (.ref fa) = true) (hr : k ≤ d.room) (C : Con d.w fa k [] σ.news PW) (hx : autoParam ((env c d).kindOf fn = some .globalImplicit) tacR) (hd : autoParam ((fn == ("__debug__" : Str)) = false) tacR) :
    Tr c d σ (eval (.Call (.Name fn p1) [] [] pos) (env c d)) (fun v σ' => PW v σ'.news ∧ σ'.m = σ.m) := by
  intro s Q E H r
  refine Call_ (EP.glob g hx hd s _ _ H ?_) rfl
  rintro _ σ' h' tk' ⟨rfl, rfl⟩ H'
  obtain ⟨g', G⟩ := id H'
  exact callWith_K0 (first := []) G.xh kf (Tr.call C hr { s with heap := h', toks := tk' } Q E H' r)
theorem EL.two {c : FnS} {d : Dy} {σ : St} {k1 k2 k3 k4 : Nat} {p1 p2 p3 p4 p5 p6 p7 : Pos} : EL c d σ (.List [.BinOp (.Constant (.int 0) k1 p1) .Sub (.Constant (.int 1) k2 p2) p3, .BinOp (.Constant (.int 0) k3 p4) .Sub (.Constant (.int 1) k4 p5) p6] p7) [0 - 1, 0 - 1] :=
  EL.list (Args.p (EP.bin EP.int EP.int op_sub) fun v1 h1 => Args.p (EP.bin EP.int EP.int op_sub) fun v2 h2 => Args.nil ⟨rfl, ints_cons h1 (ints_cons h2 .nil)⟩) (by decide)
theorem g_any (w : World) : nsIn (KK w.params) mainGlobals (Str.ofString "_law_any") = some (some (.ref 273)) := by k_is
theorem k_any (w : World) : keepIn (KK w.params) (.ref 273) = true := by k_is
theorem g_kinds (w : World) : nsIn (KK w.params) mainGlobals (Str.ofString "_law_kinds_right") = some (some (.ref 280)) := by k_is
theorem k_kinds (w : World) : keepIn (KK w.params) (.ref 280) = true := by k_is
/-- the law's own reckoning of the number -/
noncomputable def noF (q r : Str → Int) (op f h : Int) : Option Int := if 12 ≤ op ∧ op < 18 then arF op (q (Str.ofString "number")) (r (Str.ofString "number")) f h else some (wrapF (0 - q (Str.ofString "number")) f h)
theorem no_eq {q r : Str → Int} {op f h : Int} (h1 : 12 ≤ op ∧ op < 19) : noF q r op f h = foF op (q (Str.ofString "number")) (r (Str.ofString "number")) f h := by
  unfold noF foF
  rw [if_pos (show 12 ≤ op ∧ op ≤ 18 from ⟨h1.1, Int.le_of_lt_add_one h1.2⟩)]
  by_cases z : op = 18
  · subst z; rw [Int.zero_sub]; rfl
  · rw [if_pos ⟨h1.1, Int.lt_iff_le_and_ne.mpr ⟨Int.le_of_lt_add_one h1.2, z⟩⟩]
theorem due_iff {q r : Str → Int} {op f h : Int} : fdF q r op f h ≠ none ↔ ((12 ≤ op ∧ op < 19) ∧ noF q r op f h ≠ none ∧ q (Str.ofString "kind") = 5 ∧ r (Str.ofString "kind") = 5) ∧ (shown q).drop 4 = [0 - 1, 0 - 1] ∧ (shown r).drop 4 = [0 - 1, 0 - 1] := by
  have sh : ∀ q : Str → Int, (shown q).drop 4 = [0 - 1, 0 - 1] ↔ q (Str.ofString "t") = -1 ∧ q (Str.ofString "f") = -1 := fun q => by
    show [_, _] = _ ↔ _
    rw [List.cons.injEq, List.cons.injEq, Int.zero_sub]
    exact ⟨fun z => ⟨z.1, z.2.1⟩, fun z => ⟨z.1, z.2, rfl⟩⟩
  rw [sh, sh]
  unfold fdF
  constructor
  · intro z
    by_cases y : numeral q ∧ numeral r
    · rw [if_pos y] at z
      obtain ⟨⟨a1, a2⟩, b1, b2⟩ := y
      by_cases w : 12 ≤ op ∧ op ≤ 18
      · have w' : 12 ≤ op ∧ op < 19 := ⟨w.1, Int.lt_add_one_of_le w.2⟩
        exact ⟨⟨w', by rw [no_eq w']; exact z, a1, b1⟩, a2, b2⟩
      · unfold foF at z; rw [if_neg w] at z; exact absurd rfl z
    · rw [if_neg y] at z; exact absurd rfl z
  · rintro ⟨⟨w, z, a1, b1⟩, a2, b2⟩
    rw [if_pos ⟨⟨a1, a2⟩, b1, b2⟩, ← no_eq w]
    exact z
theorem fd_no {q r : Str → Int} {op f h i : Int} (h1 : 12 ≤ op ∧ op < 19) (e : fdF q r op f h = some i) : noF q r op f h = some i := by
  unfold fdF at e
  rw [no_eq h1]
  split at e
  · exact e
  · cases e
end Mine

namespace Mine
open PySem PySem.W PySem.Spec PySem.Calls PyProof.Rows
theorem fill__j_W1 : (PySem.Challenge.rw_nt0638_01, KK) = (PySem.Challenge.rw_nt0638_01, KK) := by k_fill; rfl
/-- into the law's body -/
theorem law_enter {c : FnS} {w : World} {mean : ExcName → Option Value} {mg mb : Str → Option Value} {s₁ : Shared} {h₁ : Heap} {m : Str → Option Value} {body : List Stmt} {Q : Flow → Shared → Prop} {E : Value → Shared → Prop} {s : Shared} {l : Addr} {vs : List Value} {ns : List Int}
    (hs : s.heap = h₁) (hk : c.scope.kind = .function) (KX : (KK w.params).In s₁.heap) (T : Top hd.view_39 (looseW hd.view_39 [Str.ofString "FOLDED"]) mean mg mb s₁.heap) (K0 : Below callerA T.heap [] T.heap) (F : Fr s₁.heap s₁.heap.objs.size h₁ m) (N : News s₁.heap s₁.heap.objs.size h₁ [])
    (hL : s₁.heap.IsList l vs.toArray) (hI : IntsAre vs ns) (hc : ¬ ((63 : Nat) : Int) < ns.length)
    (walk : ∀ (d : Dy), d.w = w → d.room = 20 → d.base.IsList l vs.toArray → IntsAre vs ns → ns.length ≤ 1000 → Tr c d ⟨m, []⟩ (execs body (env c d)) (fun f _ => f = .ret (.bool true)))
    (ret : ∀ h' tk' m', Fr s₁.heap s₁.heap.objs.size h' m' → Q (.ret (.bool true)) { s with heap := h', toks := tk' }) :
    wpAny (model PySem.Challenge.rw_nt0638_01.row.prog w) (callerA.deeper (envOf c.name c.scope s₁.heap.objs.size c.f c.cd)) (execs body (envOf c.name c.scope s₁.heap.objs.size c.f c.cd)) Q E s := by
  subst hs
  refine walk ⟨w, s₁.heap.objs.size, [], callerA, s₁.heap, s₁.heap, mean, mg, mb, 20⟩ rfl rfl hL hI ?_ s Q E ⟨s₁.heap, ⟨hk, rfl, rfl, (show 301 + 1 + 20 < recursionLimit by decide), (show 4 + 3 + 8 * 20 < cLine by decide), KX, T⟩, K0, KtsTurn.refl, ktsDicts_nil, F, N⟩ ?_
  · exact Nat.le_trans (Int.ofNat_le.mp (Int.not_lt.mp hc)) (by decide)
  · rintro f σ' h' tk' rfl ⟨g, G⟩
    exact ret h' tk' σ'.m ⟨G.fr.ns, fun b o e => G.fr.keep b o (G.bl.stays b o e), Nat.le_refl _⟩
end Mine
open PySem PySem.W PyProof.Rows Mine
set_option maxHeartbeats 1000000 in
theorem PySem.Challenge.cw_nt0638_01_holds : PySem.Challenge.rw_nt0638_01.Holds := by
  refine Mine.hd ?_
  k_go0
  refine Mine.law_enter (c := ⟨_, _, _, _⟩) rfl rfl (by assumption) (by assumption) (by assumption) (by assumption) (by assumption) (by assumption) (by assumption) (by assumption) ?_ ?_
  · rintro d rfl hrm hL hI hz
    have r8 : ∀ k, k ≤ 20 → k ≤ d.room := fun k h => hrm.symm ▸ h
    refine Ex.assignK (P₁ := fun v n' => ∃ b l, v = .ref b ∧ BoxIn b l n') (EP.list (Args.cons (Tr.absList (EL.script hL hI hz rfl (by decide)) (Nat.le_trans (List.length_take_le _ _) (by decide)) rfl (by decide) rfl (by decide) rfl (fun _ => rfl) fun _ => ⟨rfl, rfl, rfl, rfl⟩) ?_)) fun _ n1 h1 => el22 h1 ?_
    · rintro _ _ ⟨D, vs, n, n1, rfl, rfl, hlen, hints⟩
      exact Args.i EP.int fun t => Args.nil ⟨(by decide : 2 ≤ 1000), fun b hb => ⟨_, rfl, b, D, rfl, ⟨Nat.ne_of_gt (hb _ (.head _)), ⟨11, t, 0, .head _, by decide, by decide⟩, ⟨vs, n, .tail _ (.head _), hlen, hints⟩⟩⟩⟩
    rintro b l rfl B1
    refine Ex.forInts (EL.script hL hI hz rfl (by decide)) (fun σ' => σ'.m (Str.ofString "box") = some (.ref b) ∧ BoxIn b l σ'.news) (fun n' hs => ⟨rfl, B1.sub' hs⟩) (Nat.le_trans (List.length_take_le _ _) (by decide)) ?_ fun m n2 h2 => ?_
    · rintro I o i t m nx ⟨mb, ⟨neb, ⟨s0, ts, nb, hb, s1, s2⟩, ⟨vs1, nl, hl, hlr⟩⟩⟩ hne l2 vs2 hi2 hl2
      refine Tr.know fun U => ?_
      have n2 : l2 ≠ b := by
        rintro rfl
        have e3 : vs2 = [.ref l, .int s0 ts] := congrArg (fun o : Obj => match o.data with | .seq a _ => a.toList | _ => []) (U _ _ _ (.tail _ hl2) (.tail _ hb))
        rw [e3] at hi2
        exact nomatch hi2
      have nI : I ≠ b := Ne.symm (hne _ hb)
      refine Ex.setItem (k := 1) (q := fun _ v => [.ref l, v]) (EP.bin (EP.bin (EP.bin (EP.mono (EP.subL (EP.name mb) (.tail _ hb) EP.int (by decide) (by decide) rfl) fun v (q : v = .int s0 ts) => (⟨ts, q⟩ : IsI s0 v)) EP.int (op_mul (by decide))) (EP.abs (EP.intOf EP.nameI)) op_add) EP.int (op_mod (by decide))) (EP.name mb) EP.int (by decide) (by decide) (.tail _ hb) (fun v _ => rfl) ?_
      rintro _ ⟨t1, rfl⟩
      exact Ex.nil (RTurn.mk (.tail _ (mem_rest (.head _) nI)) ⟨⟨mb, ⟨neb, ⟨_, t1, nb, mem_rest (.head _) (Ne.symm nI), Int.emod_nonneg _ (by decide), Int.emod_lt_of_pos _ (by decide)⟩, ⟨vs1, nl, mem_rest (.tail _ (mem_rest (.tail _ hl) (Ne.symm neb))) (hne _ hl), hlr⟩⟩⟩, mem_rest (.tail _ (mem_rest (.tail _ hl2) n2)) (hne _ hl2)⟩)
    have mb := h2.1
    have B2 := h2.2
    refine Ex.assignK (P₁ := fun v n' => ∃ wd t, v = .int wd t ∧ (4 ≤ wd ∧ wd ≤ 30) ∧ BoxIn b l n') (Tr.bin EP.int ?_) fun _ n3 h3 => el23 h3 ?_
    · rintro v _ ⟨hv, rfl⟩
      exact EP.take (r8 1 (by decide)) mb B2 EP.int (by decide) fun i u n' hu h0 h1 hB hK => Tr.opd op_add hv hu fun v hv => ⟨n', rfl, let ⟨t, e⟩ := hv; ⟨4 + i, t, e, ⟨Int.le_add_of_nonneg_right h0, (Int.add_le_add_left (Int.le_of_lt_add_one (show i < 26 + 1 from h1)) 4 : 4 + i ≤ 4 + 26)⟩, hB⟩⟩
    rintro wd tw rfl w B3
    have W := Wd.of w.1 w.2
    generalize (2 : Int) ^ wd.toNat = f at W
    generalize (2 : Int) ^ (wd - 1).toNat = h at W
    refine Ex.assignK (P₁ := fun v n' => ∃ lim dl, v = .ref lim ∧ LimAt lim dl wd n' ∧ BoxIn b l n' ∧ lim ∉ [b, l] ∧ dl ∉ [b, l]) (EP.limits (r8 2 (by decide)) rfl fun lim dl n' L S N => ⟨n', rfl, lim, dl, rfl, L, B3.sub' S, (B3.new N).1⟩) fun _ n4 h4 => el24 h4 ?_
    rintro lim dl rfl L4 B4 ap
    refine Ex.forRange (n := 2) EP.int (by decide) (fun _ σ => LawI b l lim dl wd σ) ⟨mb, rfl, ⟨_, rfl⟩, B4, L4, ap⟩ ?_ fun m n5 LL5 => ?_
    · rintro I - i t m nx hi ⟨mb, ml, ⟨tw, mw⟩, B, L, -⟩ hne
      have hI : I ∉ [b, l] := B.ne' hne
      have hk : 3 - i ≤ 3 := Nat.sub_le 3 i
      refine Ex.assignK (EP.callC (g_tree _) (k_tree _) (k := 3 - i + 2) (r8 _ (Nat.le_trans (Nat.add_le_add_right hk 2) (by decide))) (Args.v (EP.name mb) (Args.i (i := ((3 - i : Nat) : Int)) (EP.mono (EP.bin EP.int EP.nameI op_sub) fun v q => by rw [Int.ofNat_sub (Nat.le_trans (Nat.le_of_lt hi) (by decide))]; exact q) fun t1 => Args.v (EP.name mw) (Args.nil ⟨rfl, tree_c d.w W (3 - i) t1 tw _ B.cons⟩)))) fun v n6 h6 => el15 h6 ?_
      rintro T hT ok dp B6 K6
      have L6 : LimAt lim dl wd n6 := (L.sub fun _ h => .tail _ h).keep K6 ap.1 ap.2
      have I6 := K6 _ (.head _) hI
      have dp3 : T.depth ≤ 3 := Nat.le_trans dp hk
      refine Ex.tup2 (by decide) (Args.p (EP.callP (R := OI (T.val f h)) (g_due _) (k_due _) (k := T.depth + 3) (r8 _ (Nat.le_trans (Nat.add_le_add_right dp3 3) (by decide))) (Args.v EP.name (Args.v (EP.name mw) (Args.nil ⟨rfl, due_c d.w W T.depth T v (Nat.le_refl _) hT ok⟩)))) fun u hu => Args.q (EP.callC (g_told _) (k_told _) (r8 _ (Nat.le_trans (Nat.add_le_add_right dp3 10) (by decide))) (Args.v EP.name (Args.v (EP.name ml) (Args.nil ⟨rfl, told_c d.w W T.depth T v n6 (Nat.le_refl _) hT ok L6⟩)))) fun v n7 h7 => el35 h7 fun x dx q ev E7 S7 _ Q7 => Args.nil ⟨_, _, rfl, ?_⟩)
      subst ev
      generalize T.val f h = o at hu Q7
      refine Ex.pass (TT.toJ (J := fun σ' => σ' = _) (TT.or2 (TT.cmp (EP.name (v := .ref x)) EP.none cmp_is) fun _ => TT.cmp (EP.fld E7 i_kind i_kind EP.name) (EP.ifexp (TT.cmp (EP.oi hu) EP.none cmp_isO) (fun e => EP.mono (EP.int (i := 11)) fun v q => (?_ : IsI (if o.isSome then 5 else 11) v)) (fun e => EP.mono (EP.int (i := 5)) fun v q => (?_ : IsI (if o.isSome then 5 else 11) v))) cmp_ne) rfl) (fun z => z.elim (fun z => (nomatch z)) fun z => z Q7.k) ?_
      · rw [e]; exact q
      · cases o with
        | none => exact absurd rfl e
        | some j => exact q
      rintro _ rfl
      refine Ex.pass (TT.toJ (J := fun σ' => σ' = _) (TT.and2 (TT.cmp (EP.oi hu) EP.none cmp_isnotO) fun ho => TT.or2 (p := q (Str.ofString "number") ≠ o.getD 0) (q := false = true) (TT.cmp (EP.fld E7 i_number i_number EP.name) (EP.mono (EP.name (v := u)) fun v e => ?_) cmp_ne) fun _ => (EP.fldV E7 i_number i_number EP.name).elim fun _ hf => TT.plain (EP.isi hf (g_bool _) boot_bool (by decide) fun s Q E _ k => IsiPair.int_bool (k _))) rfl) (fun z => z.2.elim (fun z => z Q7.n) fun z => (nomatch z)) ?_
      · cases o with
        | none => exact absurd rfl ho
        | some j => exact e ▸ hu
      rintro _ rfl
      exact Ex.nil (RTurn.mk (S7 _ I6) (LawI.drop ⟨mb, ml, ⟨tw, mw⟩, B6.sub' S7, L6.sub S7, ap⟩ hI (L.ne' hne)))
    refine Ex.forRange (n := 3) EP.int (by decide) (fun _ σ => LawI b l lim dl wd σ) LL5 ?_ fun m nx _ => Ex.ret (Tr.mono (EP.call0 (g_kinds _) (k_kinds _) (r8 12 (by decide)) (kinds_c _)) fun v σ' q => congrArg Flow.ret q.1)
    clear LL5 B4 L4 B3 hL hI hz
    rintro I - i t m nx hi ⟨mb, ml, ⟨tw, mw⟩, B, L, -⟩ hne
    have hI : I ∉ [b, l] := B.ne' hne
    refine Ex.tup3 (Args.q (PW := Mine.Drawn b l 24 ((I, rgIt (i + 1) 3) :: nx)) (EP.take (r8 1 (by decide)) mb B.cons EP.int (by decide) fun i v n' hv h0 h1 hB hK => ⟨n', rfl, ⟨i, hv, h0, h1⟩, hB, hK⟩) fun v6 n6 h6 => Args.q (EP.callC (g_any _) (k_any _) (k := 3) (r8 3 (by decide)) (Args.v (EP.name mb) (Args.nil ⟨rfl, any_c d.w h6.2.1⟩))) fun v7 n7 h7 => Args.q (EP.callC (g_any _) (k_any _) (k := 3) (r8 3 (by decide)) (Args.v (EP.name mb) (Args.nil ⟨rfl, any_c d.w (h7.elim fun _ h => h.elim fun _ h => h.elim fun _ h => h.2.2.2.1)⟩))) fun v8 n8 h8 => Args.nil ⟨_, _, _, rfl, ?_⟩)
    refine el36 h7 fun x dx q ev7 E7 bq B7 K7 N7 => el36 h8 fun y dy r ev8 E8 br B8 K8 N8 => ?_
    obtain ⟨⟨op, ⟨top, rfl⟩, o0, o1⟩, B6, K6⟩ := h6
    subst ev7 ev8
    clear h7 h8
    obtain ⟨⟨x1, x2⟩, x3, x4⟩ := B6.new N7
    have E7' := E7.keep K8 x1 x2
    have L8 : LimAt lim dl wd n8 := (((L.sub fun _ h => .tail _ h).keep K6 ap.1 ap.2).keep K7 ap.1 ap.2).keep K8 ap.1 ap.2
    have I6 := K6 _ (.head _) hI
    have I8 := K8 _ (K7 _ I6 hI) hI
    have nId : I ∉ [dx] := fun z => (N7 _ I6).2 (List.mem_singleton.mp z)
    have nyd := E7.apart N8
    have nlim : lim ∉ [dx] ∧ dl ∉ [dx] := ((L.sub fun _ h => .tail _ h).keep K6 ap.1 ap.2 : LimAt lim dl wd n6).apart N7
    refine Ex.tup2 (by decide) (Args.l (EL.shown E7' (r8 1 (by decide)) EP.name) fun a1 n9 L1 S9 => Args.l (EL.shown (E8.sub' S9) (r8 1 (by decide)) EP.name) fun a2 n10 L2 S10 => Args.nil ⟨_, _, rfl, Tr.know fun U => ?_⟩)
    have S : Sub n8 n10 := Sub.trans S9 S10
    have E10 := E7'.sub' S
    have E8' := E8.sub' S
    have L10 := L8.sub S
    have L1' := L1.sub S10
    have na1 : a1 ∉ [dx] := fun z => L1'.ne U E10 (List.mem_singleton.mp z)
    have na2 : a2 ∉ [dx] := fun z => L2.ne U E10 (List.mem_singleton.mp z)
    clear U
    have bd : ∀ j : Int, 0 ≤ j ∧ j < 9 → -1073741824 < j ∧ j < 1073741824 := fun j h => ⟨Int.lt_of_lt_of_le (by decide) h.1, Int.lt_trans h.2 (by decide)⟩
    refine Ex.assignE (R := OI (noF q r op f h)) (EP.ifexp (TT.cmp2 EP.int EP.nameI EP.int cmp_le cmp_lt) (fun z => ?_) fun z => ?_) fun u hu => ?_
    · refine EP.callP (g_ltwo _) (k_ltwo _) (k := 2) (r8 2 (by decide)) (Args.v EP.name (Args.i (EP.item L1' rfl (by decide) (by decide) EP.name) fun t => Args.i (EP.item L2 rfl (by decide) (by decide) EP.name) fun t => Args.v (EP.name mw) (Args.nil ⟨rfl, ?_⟩)))
      unfold noF
      rw [if_pos z]
      exact ltwo_c d.w W ⟨z.1, Int.le_of_lt_add_one z.2⟩ (bd _ bq) (bd _ br)
    · unfold noF
      rw [if_neg z]
      exact EP.lwrap W (r8 1 (by decide)) (EP.bin EP.int (EP.item L1' rfl (by decide) (by decide) EP.name) op_sub) (fun v q => ⟨_, q, rfl⟩) mw
    refine Ex.assignP (EP.and (EP.cmp2 EP.int EP.nameI EP.int cmp_le cmp_lt) fun _ => EP.and (EP.cmp (EP.oi hu) EP.none cmp_isnotO) fun _ => EP.and (EP.cmp (EP.item L1' rfl (by decide) (by decide) EP.name) EP.int cmp_eq) fun _ => EP.and1 (EP.cmp (EP.item L2 rfl (by decide) (by decide) EP.name) EP.int cmp_eq)) fun b1 hb1 => ?_
    refine Ex.assignP (EP.and (EP.nameP hb1) fun _ => EP.and (EP.eqL (EL.from (EL.name rfl L1') (by decide) (Nat.le_of_ble_eq_true rfl)) (fun _ _ _ => EL.two) (r8 8 (by decide))) fun _ => EP.and1 (EP.eqL (EL.from (EL.name rfl L2) (by decide) (Nat.le_of_ble_eq_true rfl)) (fun _ _ _ => EL.two) (r8 8 (by decide)))) fun b2 hb2 => ?_
    replace hb2 : b2 = true ↔ fdF q r op f h ≠ none := hb2.trans due_iff.symm
    refine Tr.gen fun M eM => ?_
    have nb : M (Str.ofString "box") = some (.ref b) := at_ eM mb
    have nl : M (Str.ofString "limits") = some (.ref lim) := at_ eM ml
    have nw : M (Str.ofString "width") = some (.int wd tw) := at_ eM mw
    have no : M (Str.ofString "op") = some (.int op top) := at_ eM (Eq.refl (some (Value.int op top)))
    have nh : M (Str.ofString "here") = some (.ref x) := at_ eM (Eq.refl (some (Value.ref x)))
    have nt : M (Str.ofString "there") = some (.ref y) := at_ eM (Eq.refl (some (Value.ref y)))
    have na : M (Str.ofString "ahead") = some (.ref a1) := at_ eM (Eq.refl (some (Value.ref a1)))
    have nr : M (Str.ofString "right") = some (.ref a2) := at_ eM (Eq.refl (some (Value.ref a2)))
    have nn : M (Str.ofString "number") = some u := at_ eM (Eq.refl (some u))
    have nd : M (Str.ofString "is_due") = some (.bool b2) := at_ eM (Eq.refl (some (Value.bool b2)))
    clear eM mb ml mw
    refine Ex.pass (J := LoopS M x dx y dy a1 a2 b l lim dl I (rgIt (i + 1) 3) (putO q (fdF q r op f h)) q r wd) (TJ.or2 (TJ.cmp (Tr.repr (Tr.mono (EP.callC (g_fold _) (k_fold _) (r8 6 (by decide)) (Args.v (EP.name no) (Args.v (EP.name nh) (Args.v (EP.name nt) (Args.v (EP.name nl) (Args.nil ⟨rfl, fold_c d.w W L10.toIn E10 E8' (bd _ bq) (bd _ br)⟩)))))) ?_)) (fun σ' hJ => Tr.mono (EP.repr (EP.nameP hb2 (hJ.m ▸ nd))) fun v σ2 e => ⟨e.1, e.2 ▸ hJ⟩) cmp_neR) fun σ' hJ => TT.toJ (TT.neL (EL.shown hJ.e2 (r8 1 (by decide)) (EP.name (hJ.m ▸ nt))) (fun σ2 em hs => EL.name ((congrFun em _).trans (hJ.m ▸ nr)) (hJ.l2.sub hs)) (r8 8 (by decide))) hJ) (fun z => z.elim (fun z => z Iff.rfl) fun z => z rfl) fun σ' hJ => ?_
    · rintro v _ ⟨n11, rfl, hv, E11, K11⟩
      exact ⟨hv, rfl, E11, E8'.keep K11 nyd.1 nyd.2, L1'.keep K11 na1, L2.keep K11 na2, (B8.sub' S).keep K11 x3 x4, L10.keep K11 nlim.1 nlim.2, K11 _ (S _ I8) nId⟩
    refine Ex.pass (J := fun σ2 => σ2 = σ') (TT.toJ (TT.neL (EL.shown hJ.e1 (r8 1 (by decide)) (EP.name (hJ.m ▸ nh))) (fun σ2 em hs => Tr.ifexp (TT.plain (EP.nameP hb2 ((congrFun em _).trans (hJ.m ▸ nd)))) (fun z => ?_) fun z => ?_) (r8 8 (by decide))) rfl) (fun z => z rfl) ?_
    · obtain ⟨j, eo⟩ := Option.ne_none_iff_exists'.mp z
      rw [eo]
      rw [fd_no (due_iff.mp z).1.1 eo] at hu
      exact EL.add (ns := (shown q).take 3 ++ [j]) (ms := (shown q).drop 4) (EL.add (EL.upto (EL.name ((congrFun em _).trans (hJ.m ▸ na)) (hJ.l1.sub hs)) (by decide) (Nat.le_of_ble_eq_true rfl)) (fun σ2 em2 hs2 => EL.list (Args.p (EP.mono (EP.name (v := u) ((congrFun (em2.trans em) _).trans (hJ.m ▸ nn))) fun v e => e ▸ hu) fun v1 h1 => Args.nil ⟨rfl, ints_cons h1 .nil⟩) (show 1 ≤ 1000 by decide)) (Nat.le_of_ble_eq_true rfl)) (fun σ2 em2 hs2 => EL.from (EL.name ((congrFun (em2.trans em) _).trans (hJ.m ▸ na)) ((hJ.l1.sub hs).sub hs2)) (by decide) (Nat.le_of_ble_eq_true rfl)) (Nat.le_of_ble_eq_true rfl)
    · rw [Classical.not_not.mp z]
      exact EL.name ((congrFun em _).trans (hJ.m ▸ na)) (hJ.l1.sub hs)
    rintro _ rfl
    exact Ex.nil (RTurn.mk hJ.it (LawI.drop ⟨hJ.m ▸ nb, hJ.m ▸ nl, ⟨tw, hJ.m ▸ nw⟩, hJ.bx, hJ.li, ap⟩ hI (L.ne' hne)))
  · intro h' tk' m' F
    exact goodW_bool F (by assumption) (raisesW_false (by wrow_none_raised)) (by wrow_post)
