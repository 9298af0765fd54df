import PyProof.Rows.All
import Wide.All
import OpenK.AllK
import Wide.FinOn
import Lean
import PySem.Challenge.RW_nz0123_01
open PySem PySem.W PyProof.Rows PySem.Spec PySem.Calls
set_option Elab.async false
set_option linter.unusedVariables false
set_option linter.unusedSimpArgs false
set_option linter.constructorNameAsVariable false
set_option maxRecDepth 100000
set_option maxHeartbeats 8000000
set_option compiler.extract_closed false
namespace Mine
set_option maxRecDepth 100000 in
set_option maxHeartbeats 8000000 in
open_top hd for PySem.Challenge.rw_nz0123_01
end Mine
namespace Mine

/-- every object of g stands in h -/
def Le (g h : Heap) : Prop := ∀ b o, g.get? b = some o → h.get? b = some o
theorem Le.rfl {g : Heap} : Le g g := fun _ _ e => e
theorem Le.trans {a b c : Heap} (x : Le a b) (y : Le b c) : Le a c := fun p o e => y p o (x p o e)

theorem none_of_le {g h : Heap} (x : Le g h) {b : Addr} (e : h.get? b = none) : g.get? b = none := by
  cases q : g.get? b with
  | none => rfl
  | some o => rw [x b o q] at e; cases e

theorem freeze {g h : Heap} {a : Addr} {o : Obj} (x : Le g h) (e : h.get? a = some o) :
    ∃ g', Le g g' ∧ Le g' h ∧ g'.get? a = some o ∧ ∀ b, b ≠ a → g.get? b = none → g'.get? b = none := by
  refine ⟨hideAll h ((List.range h.objs.size).filter fun b => (g.get? b).isNone && b != a), fun b ob eb => ?_, fun b ob eb => of_hideAll _ eb, ?_, fun b hb hn => ?_⟩
  · refine hideAll_get _ (x b ob eb) fun hm => ?_
    have := (List.mem_filter.mp hm).2
    simp [eb] at this
  · refine hideAll_get _ e fun hm => ?_
    have := (List.mem_filter.mp hm).2
    simp at this
  · by_cases hlt : b < h.objs.size
    · exact hideAll_none _ (List.mem_filter.mpr ⟨List.mem_range.mpr hlt, by simp [hn, hb]⟩)
    · cases q : (hideAll h ((List.range h.objs.size).filter fun b => (g.get? b).isNone && b != a)).get? b with
      | none => rfl
      | some o' => exact absurd (Heap.lt_size (of_hideAll _ q)) hlt

theorem fresh_none {h : Heap} {a : Addr} (ha : h.objs.size ≤ a) : h.get? a = none := by
  cases e : h.get? a with
  | none => rfl
  | some o' => exact absurd (Heap.lt_size e) (Nat.not_lt.mpr ha)

/-- from (g, h) to (g', h'): g grows within h', all but W stands -/
structure Stp (W : Addr → Prop) (g h g' h' : Heap) : Prop where
  gg : Le g g'
  gh : Le g' h'
  keep : ∀ b o, ¬ W b → h.get? b = some o → h'.get? b = some o
  new : ∀ b o, h.get? b = some o → g.get? b = none → g'.get? b = none
  ex : ∀ b o, h.get? b = some o → ∃ o', h'.get? b = some o'

theorem Stp.refl {W : Addr → Prop} {g h : Heap} (x : Le g h) : Stp W g h g h := ⟨Le.rfl, x, fun _ _ _ e => e, fun _ _ _ e => e, fun _ o e => ⟨o, e⟩⟩

theorem Stp.trans {W W' W'' : Addr → Prop} {g h g₁ h₁ g₂ h₂ : Heap} (x : Stp W g h g₁ h₁) (y : Stp W' g₁ h₁ g₂ h₂) (hw : ∀ b o, h.get? b = some o → W b → W'' b)
    (hw' : ∀ b o, h.get? b = some o → W' b → W'' b) : Stp W'' g h g₂ h₂ where
  gg := x.gg.trans y.gg
  gh := y.gh
  keep := fun b o n e => y.keep b o (fun q => n (hw' b o e q)) (x.keep b o (fun q => n (hw b o e q)) e)
  new := fun b o e n => by obtain ⟨o', e'⟩ := x.ex b o e; exact y.new b o' e' (x.new b o e n)
  ex := fun b o e => by obtain ⟨o', e'⟩ := x.ex b o e; exact y.ex b o' e'
theorem Stp.trans' {W : Addr → Prop} {g h g₁ h₁ g₂ h₂ : Heap} (x : Stp W g h g₁ h₁) (y : Stp W g₁ h₁ g₂ h₂) : Stp W g h g₂ h₂ := x.trans y (fun _ _ _ w => w) fun _ _ _ w => w
theorem Stp.weak {W W' : Addr → Prop} {g h g' h' : Heap} (x : Stp W g h g' h') (hw : ∀ b o, h.get? b = some o → W b → W' b) : Stp W' g h g' h' := ⟨x.gg, x.gh, fun b o n e => x.keep b o (fun q => n (hw b o e q)) e, x.new, x.ex⟩
theorem Stp.all {W : Addr → Prop} {g h g' h' : Heap} (x : Stp W g h g' h') (hw : ∀ b o, h.get? b = some o → ¬ W b) : Le h h' := fun b o e => x.keep b o (hw b o e) e

theorem Stp.keeps {W : Addr → Prop} {g h h' : Heap} (x : Le g h) (k : Le h h') : Stp W g h g h' := ⟨Le.rfl, x.trans k, fun b o _ e => k b o e, fun _ _ _ e => e, fun b o e => ⟨o, k b o e⟩⟩
theorem Stp.push {W : Addr → Prop} {g h : Heap} (x : Le g h) (o : Obj) : Stp W g h g (h.push o) := Stp.keeps x fun _ _ e => Heap.get?_push_of_some _ e
theorem Stp.same {W : Addr → Prop} {g h h' : Heap} {a : Addr} {o' : Obj} (x : Le g h) (ha : g.get? a = none) (hw : W a) (k : Heap.SameBut a h h') (he : h'.get? a = some o') : Stp W g h g h' := by
  have kk : ∀ b o, b ≠ a → h.get? b = some o → h'.get? b = some o := fun b o n e => (k.2 b n).trans e
  refine ⟨Le.rfl, fun b o e => kk b o (fun q => by rw [q, ha] at e; cases e) (x b o e), fun b o n e => kk b o (fun q => n (q ▸ hw)) e, fun _ _ _ e => e, fun b o e => ?_⟩
  by_cases q : b = a
  · exact ⟨o', q ▸ he⟩
  · exact ⟨o, kk b o q e⟩
/-- what was not frozen and is told now is frozen from here on -/
theorem Stp.freeze {W : Addr → Prop} {g h g' h' : Heap} {a : Addr} {o : Obj} (x : Stp W g h g' h') (hn : h.get? a = none) (e : h'.get? a = some o) :
    ∃ g₂, Stp W g h g₂ h' ∧ Le g' g₂ ∧ g₂.get? a = some o ∧ ∀ b, b ≠ a → g'.get? b = none → g₂.get? b = none := by
  obtain ⟨g₂, a1, a2, a3, a4⟩ := Mine.freeze x.gh e
  refine ⟨g₂, ⟨x.gg.trans a1, a2, x.keep, fun b o' e' n => ?_, x.ex⟩, a1, a3, a4⟩
  refine a4 b (fun q => ?_) (x.new b o' e' n)
  rw [q, hn] at e'; cases e'
theorem Stp.alloc {W : Addr → Prop} {g h : Heap} (x : Le g h) (o : Obj) (ho : o.isFreed = false) :
    ∃ g', Stp W g h g' (h.push o) ∧ g'.get? h.objs.size = some o := by
  obtain ⟨g₂, a, _, b, _⟩ := (Stp.push (W := W) x o).freeze (fresh_none (Nat.le_refl _)) (Heap.get?_push_size h ho)
  exact ⟨g₂, a, b⟩

/-! what a value reads as in the frozen part -/
def Rd (g : Heap) (v : Value) (d : PyData) : Prop := ∃ as, Reads g v d as
def RdAll (g : Heap) (vs : List Value) (ds : List PyData) : Prop := ∃ as, ReadsAll g vs ds as

theorem Rd.mono {g g' : Heap} {v : Value} {d : PyData} (x : Rd g v d) (k : Le g g') : Rd g' v d := let ⟨as, r⟩ := x; ⟨as, Reads.keeps k r⟩
theorem RdAll.mono {g g' : Heap} {vs : List Value} {ds : List PyData} (x : RdAll g vs ds) (k : Le g g') : RdAll g' vs ds := let ⟨as, r⟩ := x; ⟨as, ReadsAll.keeps k r⟩
theorem RdAll.nil {g : Heap} : RdAll g [] [] := ⟨_, .nil⟩
theorem RdAll.cons {g : Heap} {v : Value} {d : PyData} {vs : List Value} {ds : List PyData} (x : Rd g v d) (y : RdAll g vs ds) : RdAll g (v :: vs) (d :: ds) := let ⟨_, r⟩ := x; let ⟨_, t⟩ := y; ⟨_, .cons r t⟩
theorem RdAll.uncons {g : Heap} {vs : List Value} {d : PyData} {ds : List PyData} (x : RdAll g vs (d :: ds)) : ∃ v vs', vs = v :: vs' ∧ Rd g v d ∧ RdAll g vs' ds := by
  obtain ⟨as, r⟩ := x
  cases r with
  | cons a b => exact ⟨_, _, rfl, ⟨_, a⟩, ⟨_, b⟩⟩
theorem RdAll.length {g : Heap} {vs : List Value} {ds : List PyData} (x : RdAll g vs ds) : vs.length = ds.length := let ⟨_, r⟩ := x; SeqAt.ReadsAll.length _ _ _ r
theorem RdAll.of_nil {g : Heap} {vs : List Value} (x : RdAll g vs []) : vs = [] := List.length_eq_zero_iff.mp x.length
theorem RdAll.append {g : Heap} : ∀ {vs ws : List Value} {ds es : List PyData}, RdAll g vs ds → RdAll g ws es → RdAll g (vs ++ ws) (ds ++ es)
  | vs, _, [], _, x, y => by rw [x.of_nil]; exact y
  | vs, _, d :: ds, _, x, y => by
    obtain ⟨v, vs', rfl, a, b⟩ := x.uncons
    exact .cons a (RdAll.append b y)
theorem RdAll.get {g : Heap} : ∀ {vs : List Value} {ds : List PyData} {i : Nat} {d : PyData}, RdAll g vs ds → ds[i]? = some d → ∃ v, vs[i]? = some v ∧ Rd g v d
  | vs, [], _, _, _, e => by cases e
  | vs, d :: ds, i, d', x, e => by
    obtain ⟨v, vs', rfl, a, b⟩ := x.uncons
    cases i with
    | zero => exact ⟨v, rfl, by cases e; exact a⟩
    | succ i => exact RdAll.get (i := i) b e
theorem RdAll.drop {g : Heap} : ∀ {vs : List Value} {ds : List PyData} (n : Nat), RdAll g vs ds → RdAll g (vs.drop n) (ds.drop n)
  | _, _, 0, x => x
  | vs, [], n + 1, x => by rw [x.of_nil]; exact .nil
  | vs, d :: ds, n + 1, x => by
    obtain ⟨v, vs', rfl, a, b⟩ := x.uncons
    exact RdAll.drop n b

abbrev tupO (vs : List Value) (n : Nat := 0) : Obj := { cls := .type "tuple", data := .seq vs.toArray n }
abbrev lstO (vs : List Value) (n : Nat := 0) : Obj := { cls := .type "list", data := .seq vs.toArray n }

theorem Rd.int {g : Heap} {i : Int} {t : Tok} : Rd g (.int i t) (.int i) := ⟨_, .int i t⟩
theorem Rd.str {g : Heap} {x : Str} {t : Tok} : Rd g (.str x t) (.str x) := ⟨_, .str x t⟩
theorem Rd.bool {g : Heap} {b : Bool} : Rd g (.bool b) (.bool b) := ⟨_, .bool b⟩
theorem Rd.none {g : Heap} : Rd g .none .none := ⟨_, .none⟩
theorem Rd.tup {g : Heap} {a : Addr} {vs : List Value} {n : Nat} {ds : List PyData} (e : g.get? a = some (tupO vs n)) (r : RdAll g vs ds) : Rd g (.ref a) (.tuple ds) := let ⟨_, r⟩ := r; ⟨_, .tuple e rfl rfl (by simpa using r)⟩
theorem Rd.lst {g : Heap} {a : Addr} {vs : List Value} {n : Nat} {ds : List PyData} (e : g.get? a = some (lstO vs n)) (r : RdAll g vs ds) : Rd g (.ref a) (.list ds) := let ⟨_, r⟩ := r; ⟨_, .list e rfl rfl (by simpa using r)⟩

theorem Rd.int_inv {g : Heap} {v : Value} {i : Int} (x : Rd g v (.int i)) : ∃ t, v = .int i t := let ⟨_, r⟩ := x; by cases r; exact ⟨_, rfl⟩
theorem Rd.str_inv {g : Heap} {v : Value} {i : Str} (x : Rd g v (.str i)) : ∃ t, v = .str i t := let ⟨_, r⟩ := x; by cases r; exact ⟨_, rfl⟩
theorem Rd.bool_inv {g : Heap} {v : Value} {i : Bool} (x : Rd g v (.bool i)) : v = .bool i := let ⟨_, r⟩ := x; by cases r; rfl
theorem Rd.none_inv {g : Heap} {v : Value} (x : Rd g v .none) : v = .none := let ⟨_, r⟩ := x; by cases r; rfl
theorem Rd.tup_inv {g : Heap} {v : Value} {ds : List PyData} (x : Rd g v (.tuple ds)) : ∃ a o vs n, v = .ref a ∧ g.get? a = some o ∧ o.cls = .type "tuple" ∧ o.data = .seq (List.toArray vs) n ∧ RdAll g vs ds := by
  obtain ⟨_, r⟩ := x
  cases r with
  | tuple e1 e2 e3 e4 => exact ⟨_, _, _, _, rfl, e1, e2, by simpa using e3, ⟨_, e4⟩⟩
theorem Rd.lst_inv {g : Heap} {v : Value} {ds : List PyData} (x : Rd g v (.list ds)) : ∃ a o vs n, v = .ref a ∧ g.get? a = some o ∧ o.cls = .type "list" ∧ o.data = .seq (List.toArray vs) n ∧ RdAll g vs ds := by
  obtain ⟨_, r⟩ := x
  cases r with
  | list e1 e2 e3 e4 => exact ⟨_, _, _, _, rfl, e1, e2, by simpa using e3, ⟨_, e4⟩⟩

inductive AV where
  | dat (d : PyData)
  | val (v : Value)
  | inv (P : Heap → Value → Prop) (m : ∀ g g' v, P g v → Le g g' → P g' v)

def AvR (g : Heap) (v : Value) : AV → Prop
  | .dat d => Rd g v d
  | .val u => v = u
  | .inv P _ => P g v
theorem AvR.mono {g g' : Heap} {v : Value} : ∀ {a : AV}, AvR g v a → Le g g' → AvR g' v a
  | .dat _, x, k => Rd.mono x k
  | .val _, x, _ => x
  | .inv _ m, x, k => m _ _ _ x k
def AvRs (g : Heap) : List Value → List AV → Prop
  | [], [] => True
  | v :: vs, a :: as => AvR g v a ∧ AvRs g vs as
  | _, _ => False
theorem AvRs.mono {g g' : Heap} : ∀ {vs : List Value} {as : List AV}, AvRs g vs as → Le g g' → AvRs g' vs as
  | [], [], _, _ => trivial
  | _ :: _, _ :: _, x, k => ⟨x.1.mono k, AvRs.mono x.2 k⟩
  | [], _ :: _, x, _ => x.elim
  | _ :: _, [], x, _ => x.elim

/-- a list with no dict of its own -/
def IsL (h : Heap) (a : Addr) (vs : List Value) : Prop := ∃ o, h.get? a = some o ∧ ∃ n, o = { cls := .type "list", data := .seq (List.toArray vs) n }
theorem IsL.plain {h : Heap} {a : Addr} {vs : List Value} (x : IsL h a vs) : h.PlainList a (List.toArray vs) := let ⟨_, e, n, q⟩ := x; ⟨n, q ▸ e⟩
theorem IsL.isList {h : Heap} {a : Addr} {vs : List Value} (x : IsL h a vs) : h.IsList a (List.toArray vs) := x.plain.isList
theorem IsL.of {h : Heap} {a : Addr} {vs : List Value} (x : h.PlainList a (List.toArray vs)) : IsL h a vs := let ⟨n, e⟩ := x; ⟨_, e, n, rfl⟩
/-- the list that may change: at p, reading l -/
def ST (g : Heap) (p : Option Addr) (l : List PyData) (h : Heap) : Prop := ∀ a, p = some a → g.get? a = none ∧ ∃ vs, IsL h a vs ∧ RdAll g vs l
def isP (p : Option Addr) : Addr → Prop := fun b => p = some b

abbrev Rho := List (Str × AV)

/-- the frame: its locals and cells bear what ρ says -/
structure FR (g : Heap) (p : Option Addr) (env : Env) (ρ : Rho) (h : Heap) : Prop where
  ns : ∃ m, h.Ns env.locals m ∧ ∀ x a, ρ.lookup x = some a → env.kindOf x = some .local → ∃ v, m x = some v ∧ AvR g v a
  cell : ∀ x a, ρ.lookup x = some a → env.kindOf x ≠ some .local → ∃ c o v, env.cells.lookup x = some c ∧ h.get? c = some o ∧ o.data = .cell (some v) ∧ AvR g v a
  lg : g.get? env.locals = none
  lp : p ≠ some env.locals
  cg : ∀ x c, env.cells.lookup x = some c → g.get? c = none ∧ p ≠ some c ∧ c ≠ env.locals ∧ ∃ o v, h.get? c = some o ∧ o.data = .cell v
  cu : ∀ x y c, env.cells.lookup x = some c → env.cells.lookup y = some c → x = y

theorem FR.has {g h : Heap} {p : Option Addr} {env : Env} {ρ : Rho} (F : FR g p env ρ h) : ∃ o, h.get? env.locals = some o := let ⟨_, ⟨o, _, _, e, _⟩, _⟩ := F.ns; ⟨o, e⟩
theorem FR.step {g h g' h' : Heap} {p : Option Addr} {env : Env} {ρ : Rho} {W : Addr → Prop} (F : FR g p env ρ h) (x : Stp W g h g' h') (hl : ¬ W env.locals) (hc : ∀ y c, env.cells.lookup y = some c → ¬ W c) : FR g' p env ρ h' where
  ns := let ⟨m, n, q⟩ := F.ns; ⟨m, n.at' fun o e => x.keep _ o hl e, fun y a e k => let ⟨v, e1, e2⟩ := q y a e k; ⟨v, e1, e2.mono x.gg⟩⟩
  cell := fun y a e k => let ⟨c, o, v, e1, e2, e3, e4⟩ := F.cell y a e k; ⟨c, o, v, e1, x.keep _ _ (hc y c e1) e2, e3, e4.mono x.gg⟩
  lg := let ⟨o, e⟩ := F.has; x.new _ o e F.lg
  lp := F.lp
  cg := fun y c e => let ⟨a1, a2, a3, o, v, a4, a5⟩ := F.cg y c e; ⟨x.new _ o a4 a1, a2, a3, o, v, x.keep _ _ (hc y c e) a4, a5⟩
  cu := F.cu
theorem FR.stepP {g h g' h' : Heap} {p : Option Addr} {env : Env} {ρ : Rho} (F : FR g p env ρ h) (x : Stp (isP p) g h g' h') : FR g' p env ρ h' := F.step x F.lp fun y c e => (F.cg y c e).2.1
theorem FR.sub {g h : Heap} {p : Option Addr} {env : Env} {ρ ρ' : Rho} (F : FR g p env ρ h) (hs : ∀ x a, ρ'.lookup x = some a → ρ.lookup x = some a) : FR g p env ρ' h where
  ns := let ⟨m, n, q⟩ := F.ns; ⟨m, n, fun y a e k => q y a (hs y a e) k⟩
  cell := fun y a e k => F.cell y a (hs y a e) k
  lg := F.lg
  lp := F.lp
  cg := F.cg
  cu := F.cu
theorem ST.step {g h g' h' : Heap} {p : Option Addr} {l : List PyData} {W : Addr → Prop} (S : ST g p l h) (x : Stp W g h g' h') (hw : ∀ a, p = some a → ¬ W a) : ST g' p l h' := fun a e => by
  obtain ⟨a1, vs, ⟨o, a2, q⟩, a3⟩ := S a e
  exact ⟨x.new _ _ a2 a1, vs, ⟨o, x.keep _ _ (hw a e) a2, q⟩, a3.mono x.gg⟩
theorem Rd.lst' {g h : Heap} {a : Addr} {vs : List Value} {ds : List PyData} {o : Obj} (x : h.IsList a (List.toArray vs)) (e : h.get? a = some o) (k : g.get? a = some o) (r : RdAll g vs ds) : Rd g (.ref a) (.list ds) := by
  obtain ⟨o', e', c, n, d⟩ := x
  rw [e] at e'; cases e'
  obtain ⟨_, r⟩ := r
  exact ⟨_, .list k c d (by simpa using r)⟩

/-- room below the frames' limits -/
def Room (n : Nat) (A : Around) : Prop := A.handled = none ∧ A.depth + n < 900 ∧ A.units + 8 * n < 9000
theorem Room.le {n m : Nat} {A : Around} (R : Room n A) (h : m ≤ n) : Room m A := ⟨R.1, by have := R.2.1; omega, by have := R.2.2; omega⟩
theorem Room.deeper {n : Nat} {A : Around} (R : Room (n + 1) A) (env : Env) : Room n (A.deeper env) := ⟨R.1, by have := R.2.1; show A.depth + 1 + n < 900; omega, by have := R.2.2; show A.units + 3 + 8 * n < 9000; omega⟩
theorem Room.in1 {n : Nat} {A : Around} (R : Room (n + 1) A) : Room n A.in1 := ⟨R.1, by have := R.2.1; show A.depth + n < 900; omega, by have := R.2.2; show A.units + 1 + 8 * n < 9000; omega⟩
end Mine
namespace Mine

structure Cx where
  prog : Program
  w : World
  h₀ : Heap
  p : Option Addr

noncomputable abbrev KK (w : World) : Frag := Mine.hd.heap_39 w.params
structure Bs (C : Cx) : Prop where
  X : (KK C.w).In C.h₀
  T : ∃ pr loose mg mb, TopRead pr loose mg mb C.h₀

/-- a tree t, run where F holds, ends with a value of R; the list at p goes from l to l' -/
structure TJ {α : Type} (C : Cx) (n : Nat) (F : Heap → Heap → Prop) (l : List PyData) (t : Sem α) (R : Heap → α → Prop) (l' : List PyData) : Prop where
  run : ∀ (A : Around) (s : Shared) (g : Heap) (Q : α → Shared → Prop) (E : Value → Shared → Prop), Room n A → Le C.h₀ g → Le g s.heap → F g s.heap → ST g C.p l s.heap →
    (∀ v g' h' tk, Stp (isP C.p) g s.heap g' h' → ST g' C.p l' h' → R g' v → Q v { s with heap := h', toks := tk }) → wpAny (model C.prog C.w) A t Q E s

abbrev FRc (C : Cx) (env : Env) (ρ : Rho) : Heap → Heap → Prop := fun g h => FR g C.p env ρ h
abbrev AvP (a : AV) : Heap → Value → Prop := fun g v => AvR g v a
abbrev EJ (C : Cx) (n : Nat) (env : Env) (ρ : Rho) (l : List PyData) (e : Expr) (a : AV) (l' : List PyData) : Prop := TJ C n (FRc C env ρ) l (eval e env) (AvP a) l'
/-- a test -/
abbrev BJ (C : Cx) (n : Nat) (env : Env) (ρ : Rho) (l : List PyData) (e : Expr) (c : Bool) (l' : List PyData) : Prop := TJ C n (FRc C env ρ) l (isTrue e env (eval e env)) (fun _ b => b = c) l'
/-- an operation on two values -/
abbrev OJ2 (C : Cx) (n : Nat) (a b : AV) (l : List PyData) (t : Value → Value → Sem Value) (r : AV) (l' : List PyData) : Prop := ∀ v u, TJ C n (fun g _ => AvR g v a ∧ AvR g u b) l (t v u) (AvP r) l'
abbrev OJ1 (C : Cx) (n : Nat) (a : AV) (l : List PyData) (t : Value → Sem Value) (r : AV) (l' : List PyData) : Prop := ∀ v, TJ C n (fun g _ => AvR g v a) l (t v) (AvP r) l'
/-- a call of a value with values -/
abbrev CJ (C : Cx) (n : Nat) (f : Value) (as : List AV) (l : List PyData) (r : AV) (l' : List PyData) : Prop := ∀ vs, TJ C n (fun g _ => AvRs g vs as) l (call f vs) (AvP r) l'

section
variable {C : Cx} {n : Nat} {env : Env} {ρ : Rho} {l l' l₁ l₂ l₃ : List PyData}

theorem TJ.le {α : Type} {m : Nat} {F : Heap → Heap → Prop} {t : Sem α} {R : Heap → α → Prop} (h : TJ C m F l t R l') (hm : m ≤ n) : TJ C n F l t R l' :=
  ⟨fun A s g Q E RM hg gh hF S k => h.run A s g Q E (RM.le hm) hg gh hF S k⟩
theorem TJ.imp {α : Type} {F F' : Heap → Heap → Prop} {t : Sem α} {R R' : Heap → α → Prop} (h : TJ C n F l t R l') (hF : ∀ g h, F' g h → F g h) (hR : ∀ g v, R g v → R' g v) : TJ C n F' l t R' l' :=
  ⟨fun A s g Q E RM hg gh f S k => h.run A s g Q E RM hg gh (hF _ _ f) S fun v g' h' tk x S' r => k v g' h' tk x S' (hR _ _ r)⟩
theorem EJ.sub {ρ' : Rho} {e : Expr} {a : AV} (h : EJ C n env ρ' l e a l') (hs : ∀ x a, ρ'.lookup x = some a → ρ.lookup x = some a) : EJ C n env ρ l e a l' :=
  h.imp (fun _ _ f => FR.sub f hs) fun _ _ r => r

theorem TJ.pure {α : Type} {F : Heap → Heap → Prop} {a : α} {R : Heap → α → Prop} (h : ∀ g h, F g h → R g a) : TJ C n F l (Pure.pure a) R l :=
  ⟨fun A s g Q E RM hg gh hF S k => wpAny_pure (k a g s.heap s.toks (Stp.refl gh) S (h _ _ hF))⟩

/-! names -/
theorem EJ.name_l {x : Str} {pos : Pos} {a : AV} (hr : ρ.lookup x = some a) (hx : env.kindOf x = some .local) (hk : env.scope.kind = .function) (hd : (x == ("__debug__" : Str)) = false) : EJ C n env ρ l (.Name x pos) a l := by
  refine ⟨?_⟩
  intro A s g Q E RM hg gh hF S k
  obtain ⟨m, hn, hm⟩ := hF.ns
  obtain ⟨v, e1, e2⟩ := hm x a hr hx
  exact wpAny_Name (wpAny_loadName_local hk hx hn e1 (k v g s.heap s.toks (Stp.refl gh) S e2)) hd
theorem EJ.name_c {x : Str} {pos : Pos} {a : AV} (hr : ρ.lookup x = some a) (hx : env.kindOf x = some .cell) (hk : env.scope.kind = .function) (hd : (x == ("__debug__" : Str)) = false) : EJ C n env ρ l (.Name x pos) a l := by
  refine ⟨?_⟩
  intro A s g Q E RM hg gh hF S k
  obtain ⟨c, o, v, e1, e2, e3, e4⟩ := hF.cell x a hr (by rw [hx]; decide)
  exact wpAny_Name (wpAny_loadName_cell hk hx e1 ⟨o, e2, e3⟩ (k v g s.heap s.toks (Stp.refl gh) S e4)) hd
theorem EJ.name_f {x : Str} {pos : Pos} {a : AV} (hr : ρ.lookup x = some a) (hx : env.kindOf x = some .free) (hk : env.scope.kind = .function) (hd : (x == ("__debug__" : Str)) = false) (hc : (x == ("__classdict__" : Str)) = false) : EJ C n env ρ l (.Name x pos) a l := by
  refine ⟨?_⟩
  intro A s g Q E RM hg gh hF S k
  obtain ⟨c, o, v, e1, e2, e3, e4⟩ := hF.cell x a hr (by rw [hx]; decide)
  exact wpAny_Name (wpAny_loadName_free hk hx e1 ⟨o, e2, e3⟩ (k v g s.heap s.toks (Stp.refl gh) S e4) hc) hd
theorem EJ.glob {x : Str} {pos : Pos} {v : Value} (B : Bs C) (e : nsIn (KK C.w) mainGlobals x = some (some v)) (hx : env.kindOf x = some .globalImplicit) (hk : env.scope.kind = .function) (hg' : env.globals = mainGlobals) (hd : (x == ("__debug__" : Str)) = false) :
    EJ C n env ρ l (.Name x pos) (.val v) l := by
  refine ⟨?_⟩
  intro A s g Q E RM hg gh hF S k
  obtain ⟨pr, loose, mg, mb, T⟩ := B.T
  exact Name_function_global hk hx (loadGlobal_global (env := env) (by rw [hg']; exact T.g.keeps (hg.trans gh)) (mg_of B.X T.g e) (k v g s.heap s.toks (Stp.refl gh) S rfl)) hd
theorem EJ.blt {x : Str} {pos : Pos} {v : Value} (B : Bs C) (e : nsIn (KK C.w) mainGlobals x = some none) (hv : bootBuiltins x = some v) (hn : x ≠ "__name__") (hx : env.kindOf x = some .globalImplicit) (hk : env.scope.kind = .function) (hg' : env.globals = mainGlobals)
    (hb' : env.builtins = builtinsNs) (hd : (x == ("__debug__" : Str)) = false) : EJ C n env ρ l (.Name x pos) (.val v) l := by
  refine ⟨?_⟩
  intro A s g Q E RM hg gh hF S k
  obtain ⟨pr, loose, mg, mb, T⟩ := B.T
  exact Name_function_global hk hx (loadGlobal_builtin (env := env) (by rw [hg']; exact T.g.keeps (hg.trans gh)) (mg_none_of B.X T.g e) (by rw [hb']; exact T.b.keeps (hg.trans gh)) ((T.builtins x hn).trans hv) (k v g s.heap s.toks (Stp.refl gh) S rfl)) hd

/-! constants -/
theorem EJ.cint {i : Int} {k : Nat} {pos : Pos} : EJ C n env ρ l (.Constant (.int i) k pos) (.dat (.int i)) l := ⟨fun A s g Q E RM hg gh hF S k => wpAny_Constant_int (k _ g s.heap _ (Stp.refl gh) S Rd.int)⟩
theorem EJ.cstr {x : Str} {k : Nat} {pos : Pos} : EJ C n env ρ l (.Constant (.str x) k pos) (.dat (.str x)) l := ⟨fun A s g Q E RM hg gh hF S k => Constant_str (k _ g s.heap _ (Stp.refl gh) S Rd.str)⟩
theorem EJ.cbool {b : Bool} {k : Nat} {pos : Pos} : EJ C n env ρ l (.Constant (.bool b) k pos) (.dat (.bool b)) l := ⟨fun A s g Q E RM hg gh hF S k => Constant_bool (k _ g s.heap _ (Stp.refl gh) S Rd.bool)⟩

/-! two operands -/
theorem EJ.two {e₁ e₂ : Expr} {a b r : AV} {tr : Value → Value → Sem Value} {t : Sem Value}
    (ht : ∀ {A : Around} {Q : Value → Shared → Prop} {E : Value → Shared → Prop} {s : Shared}, wpAny (model C.prog C.w) A (eval e₁ env) (fun v s₁ => wpAny (model C.prog C.w) A (eval e₂ env) (fun u s₂ => wpAny (model C.prog C.w) A (tr v u) Q E s₂) E s₁) E s → wpAny (model C.prog C.w) A t Q E s)
    (h1 : EJ C n env ρ l e₁ a l₁) (h2 : EJ C n env ρ l₁ e₂ b l₂) (h3 : OJ2 C n a b l₂ tr r l₃) : TJ C n (FRc C env ρ) l t (AvP r) l₃ := by
  refine ⟨?_⟩
  intro A s g Q E RM hg gh hF S k
  refine ht (h1.run A s g _ _ RM hg gh hF S fun v g1 hp1 tk x S1 a1 => ?_)
  refine h2.run A _ g1 _ _ RM (hg.trans x.gg) x.gh (hF.stepP x) S1 fun u g2 hp2 tk2 y S2 a2 => ?_
  refine (h3 v u).run A _ g2 _ _ RM ((hg.trans x.gg).trans y.gg) y.gh ⟨a1.mono y.gg, a2⟩ S2 fun r g3 hp3 tk3 z S3 a3 => ?_
  exact k r g3 hp3 tk3 ((x.trans' y).trans' z) S3 a3
theorem EJ.bin {op : Operator} {e₁ e₂ : Expr} {pos : Pos} {a b r : AV} (h1 : EJ C n env ρ l e₁ a l₁) (h2 : EJ C n env ρ l₁ e₂ b l₂) (h3 : OJ2 C n a b l₂ (binaryOp op) r l₃) : EJ C n env ρ l (.BinOp e₁ op e₂ pos) r l₃ :=
  EJ.two (fun h => wpAny_BinOp h) h1 h2 h3
theorem EJ.cmp {op : CmpOp} {e₁ e₂ : Expr} {pos : Pos} {a b r : AV} (h1 : EJ C n env ρ l e₁ a l₁) (h2 : EJ C n env ρ l₁ e₂ b l₂) (h3 : OJ2 C n a b l₂ (compareOp op) r l₃) (hm : behindInMarks op e₂ = false) : EJ C n env ρ l (.Compare e₁ [op] [e₂] pos) r l₃ :=
  EJ.two (fun h => wpAny_Compare1 h hm) h1 h2 h3
theorem EJ.sub_ {e₁ e₂ : Expr} {pos : Pos} {a b r : AV} (h1 : EJ C n env ρ l e₁ a l₁) (h2 : EJ C n env ρ l₁ e₂ b l₂) (h3 : OJ2 C n a b l₂ (subscriptTail e₁ e₂) r l₃) : EJ C n env ρ l (.Subscript e₁ e₂ pos) r l₃ :=
  EJ.two (fun h => Subscript_ h) h1 h2 h3
theorem EJ.una {op : UnaryOp} {e₁ : Expr} {pos : Pos} {a r : AV} (h1 : EJ C n env ρ l e₁ a l₁) (h3 : OJ1 C n a l₁ (unaryOp op) r l₂) : EJ C n env ρ l (.UnaryOp op e₁ pos) r l₂ := by
  refine ⟨?_⟩
  intro A s g Q E RM hg gh hF S k
  refine UnaryOp_ (h1.run A s g _ _ RM hg gh hF S fun v g1 hp1 tk x S1 a1 => ?_)
  exact (h3 v).run A _ g1 _ _ RM (hg.trans x.gg) x.gh a1 S1 fun r g3 hp3 tk3 z S3 a3 => k r g3 hp3 tk3 (x.trans' z) S3 a3

/-! tests -/
def tru : PyData → Bool
  | .bool b => b
  | .int i => i != 0
  | _ => false
def plainTru : PyData → Bool
  | .bool _ | .int _ => true
  | _ => false
theorem truthy_J {d : PyData} (hd : plainTru d = true) (v : Value) : TJ C n (fun g _ => AvR g v (.dat d)) l (truthy v) (fun _ b => b = tru d) l := by
  refine ⟨?_⟩
  intro A s g Q E RM hg gh hF S k
  cases d with
  | bool b =>
    obtain rfl := Rd.bool_inv hF
    exact wpAny_truthy_bool (k _ g s.heap s.toks (Stp.refl gh) S rfl)
  | int i =>
    obtain ⟨t, rfl⟩ := Rd.int_inv hF
    exact P.truthy_int (k _ g s.heap s.toks (Stp.refl gh) S rfl)
  | _ => cases hd
theorem BJ.plain {e : Expr} {d : PyData} (h : EJ C n env ρ l e (.dat d) l') (hd : plainTru d = true) (he : isTrue e env (eval e env) = (do let v ← eval e env; standAt e.pos; holding [v] (truthy v))) : BJ C n env ρ l e (tru d) l' := by
  refine ⟨?_⟩
  intro A s g Q E RM hg gh hF S k
  refine isTrue_plain (h.run A s g _ _ RM hg gh hF S fun v g1 hp1 tk x S1 a1 => ?_) he
  exact (truthy_J hd v).run A _ g1 _ _ RM (hg.trans x.gg) x.gh a1 S1 fun b g3 hp3 tk3 z S3 a3 => k b g3 hp3 tk3 (x.trans' z) S3 a3
theorem BJ.cmp {op : CmpOp} {e₁ e₂ : Expr} {pos : Pos} {a b : AV} {c : Bool} (h1 : EJ C n env ρ l e₁ a l₁) (h2 : EJ C n env ρ l₁ e₂ b l₂) (h3 : OJ2 C n a b l₂ (compareOp op) (.dat (.bool c)) l₃) (hm : behindInMarks op e₂ = false) : BJ C n env ρ l (.Compare e₁ [op] [e₂] pos) c l₃ := by
  refine ⟨?_⟩
  intro A s g Q E RM hg gh hF S k
  refine wpAny_isTrue_Compare1 (h1.run A s g _ _ RM hg gh hF S fun v g1 hp1 tk x S1 a1 => ?_) hm
  refine h2.run A _ g1 _ _ RM (hg.trans x.gg) x.gh (hF.stepP x) S1 fun u g2 hp2 tk2 y S2 a2 => ?_
  refine (h3 v u).run A _ g2 _ _ RM ((hg.trans x.gg).trans y.gg) y.gh ⟨a1.mono y.gg, a2⟩ S2 fun r g3 hp3 tk3 z S3 a3 => ?_
  obtain rfl := Rd.bool_inv a3
  exact wpAny_truthy_bool (k c g3 hp3 tk3 ((x.trans' y).trans' z) S3 rfl)
theorem BJ.and {x : Expr} {r : Expr} {rest : List Expr} {pos : Pos} {c d : Bool} (h1 : BJ C n env ρ l x c l₁) (h2 : c = true → BJ C n env ρ l₁ (.BoolOp .And (r :: rest) pos) d l₂) (h3 : c = false → d = false ∧ l₂ = l₁) : BJ C n env ρ l (.BoolOp .And (x :: r :: rest) pos) d l₂ := by
  refine ⟨?_⟩
  intro A s g Q E RM hg gh hF S k
  refine isTrue_and (h1.run A s g _ _ RM hg gh hF S fun v g1 hp1 tk x S1 a1 => ?_)
  cases a1
  cases c with
  | false => obtain ⟨rfl, rfl⟩ := h3 rfl; exact k _ g1 hp1 tk x S1 rfl
  | true => exact (h2 rfl).run A _ g1 _ _ RM (hg.trans x.gg) x.gh (hF.stepP x) S1 fun b g3 hp3 tk3 z S3 a3 => k b g3 hp3 tk3 (x.trans' z) S3 a3
theorem BJ.and1 {x : Expr} {pos : Pos} {c : Bool} (h1 : BJ C n env ρ l x c l₁) : BJ C n env ρ l (.BoolOp .And [x] pos) c l₁ := by
  refine ⟨?_⟩
  intro A s g Q E RM hg gh hF S k
  refine isTrue_and (h1.run A s g _ _ RM hg gh hF S fun v g1 hp1 tk x S1 a1 => ?_)
  cases a1
  cases c with
  | false => exact k _ g1 hp1 tk x S1 rfl
  | true => exact isTrue_and_nil (k _ g1 hp1 tk x S1 rfl)
theorem BJ.or {x : Expr} {r : Expr} {rest : List Expr} {pos : Pos} {c d : Bool} (h1 : BJ C n env ρ l x c l₁) (h2 : c = false → BJ C n env ρ l₁ (.BoolOp .Or (r :: rest) pos) d l₂) (h3 : c = true → d = true ∧ l₂ = l₁) : BJ C n env ρ l (.BoolOp .Or (x :: r :: rest) pos) d l₂ := by
  refine ⟨?_⟩
  intro A s g Q E RM hg gh hF S k
  refine isTrue_or (h1.run A s g _ _ RM hg gh hF S fun v g1 hp1 tk x S1 a1 => ?_)
  cases a1
  cases c with
  | true => obtain ⟨rfl, rfl⟩ := h3 rfl; exact k _ g1 hp1 tk x S1 rfl
  | false => exact (h2 rfl).run A _ g1 _ _ RM (hg.trans x.gg) x.gh (hF.stepP x) S1 fun b g3 hp3 tk3 z S3 a3 => k b g3 hp3 tk3 (x.trans' z) S3 a3
theorem BJ.or1 {x : Expr} {pos : Pos} {c : Bool} (h1 : BJ C n env ρ l x c l₁) : BJ C n env ρ l (.BoolOp .Or [x] pos) c l₁ := by
  refine ⟨?_⟩
  intro A s g Q E RM hg gh hF S k
  refine isTrue_or (h1.run A s g _ _ RM hg gh hF S fun v g1 hp1 tk x S1 a1 => ?_)
  cases a1
  cases c with
  | true => exact k _ g1 hp1 tk x S1 rfl
  | false => exact isTrue_or_nil (k _ g1 hp1 tk x S1 rfl)
theorem EJ.ite {test body orelse : Expr} {pos : Pos} {c : Bool} {r : AV} (h1 : BJ C n env ρ l test c l₁) (h2 : EJ C n env ρ l₁ (if c then body else orelse) r l₂) : EJ C n env ρ l (.IfExp test body orelse pos) r l₂ := by
  refine ⟨?_⟩
  intro A s g Q E RM hg gh hF S k
  refine IfExp_ (h1.run A s g _ _ RM hg gh hF S fun v g1 hp1 tk x S1 a1 => ?_)
  cases a1
  cases c with
  | false => exact h2.run A _ g1 _ _ RM (hg.trans x.gg) x.gh (hF.stepP x) S1 fun b g3 hp3 tk3 z S3 a3 => k b g3 hp3 tk3 (x.trans' z) S3 a3
  | true => exact h2.run A _ g1 _ _ RM (hg.trans x.gg) x.gh (hF.stepP x) S1 fun b g3 hp3 tk3 z S3 a3 => k b g3 hp3 tk3 (x.trans' z) S3 a3
/-- a and b, as a value: a is a bool -/
theorem EJ.and_v {e₁ e₂ : Expr} {pos : Pos} {c : Bool} {r : AV} (h1 : EJ C n env ρ l e₁ (.dat (.bool c)) l₁) (h2 : c = true → EJ C n env ρ l₁ e₂ r l₂) (h3 : c = false → r = .dat (.bool false) ∧ l₂ = l₁) : EJ C n env ρ l (.BoolOp .And [e₁, e₂] pos) r l₂ := by
  refine ⟨?_⟩
  intro A s g Q E RM hg gh hF S k
  refine BoolOp_and (h1.run A s g _ _ RM hg gh hF S fun v g1 hp1 tk x S1 a1 => ?_)
  obtain rfl := Rd.bool_inv a1
  refine wpAny_truthy_bool ?_
  cases c with
  | false => obtain ⟨rfl, rfl⟩ := h3 rfl; exact k _ g1 hp1 tk x S1 Rd.bool
  | true =>
    refine BoolOp_one ((h2 rfl).run A _ g1 _ _ RM (hg.trans x.gg) x.gh (hF.stepP x) S1 fun b g3 hp3 tk3 z S3 a3 => k b g3 hp3 tk3 (x.trans' z) S3 a3)

/-! displays -/
/-- the expressions of a display or of a call, one after another -/
inductive EsJ (C : Cx) (n : Nat) (env : Env) (ρ : Rho) : List PyData → List Expr → List AV → List PyData → Prop
  | nil {l : List PyData} : EsJ C n env ρ l [] [] l
  | cons {l l₁ l₂ : List PyData} {e : Expr} {es : List Expr} {a : AV} {as : List AV} : starEach (e :: es) env = (false, eval e env) :: starEach es env → EJ C n env ρ l e a l₁ → EsJ C n env ρ l₁ es as l₂ → EsJ C n env ρ l (e :: es) (a :: as) l₂
theorem EsJ.run {es : List Expr} {as : List AV} (h : EsJ C n env ρ l es as l') (pos : Pos) : TJ C n (FRc C env ρ) l (spliced (backTo pos (starEach es env))) (fun g vs => AvRs g vs as) l' := by
  induction h with
  | nil => exact ⟨fun A s g Q E RM hg gh hF S k => spliced_none (k [] g s.heap s.toks (Stp.refl gh) S trivial)⟩
  | cons he h1 _ ih =>
    refine ⟨?_⟩
    intro A s g Q E RM hg gh hF S k
    refine spliced_more (h1.run A s g _ _ RM hg gh hF S fun v g1 hp1 tk x S1 a1 => ?_) he
    exact ih.run A _ g1 _ _ RM (hg.trans x.gg) x.gh (hF.stepP x) S1 fun vs g3 hp3 tk3 z S3 a3 => k _ g3 hp3 tk3 (x.trans' z) S3 ⟨a1.mono z.gg, a3⟩

def datsOf : List AV → Option (List PyData)
  | [] => some []
  | .dat d :: r => (datsOf r).map (d :: ·)
  | _ => none
theorem rdAll_of : ∀ {as : List AV} {ds : List PyData} {g : Heap} {vs : List Value}, datsOf as = some ds → AvRs g vs as → RdAll g vs ds
  | [], ds, g, [], e, _ => by cases e; exact .nil
  | .dat d :: r, ds, g, v :: vs, e, x => by
    simp only [datsOf] at e
    cases q : datsOf r with
    | none => rw [q] at e; cases e
    | some ds' => rw [q] at e; cases e; exact .cons x.1 (rdAll_of q x.2)
  | [], _, _, _ :: _, _, x => x.elim
  | _ :: _, _, _, [], _, x => x.elim
  | .val _ :: _, _, _, _ :: _, e, _ => by cases e
  | .inv _ _ :: _, _, _, _ :: _, e, _ => by cases e
theorem avRs_length : ∀ {as : List AV} {g : Heap} {vs : List Value}, AvRs g vs as → vs.length = as.length
  | [], _, [], _ => rfl
  | _ :: r, _, _ :: _, x => by rw [List.length_cons, List.length_cons, avRs_length x.2]
  | [], _, _ :: _, x => x.elim
  | _ :: _, _, [], x => x.elim

theorem ST.ne {g h : Heap} {p : Option Addr} {a : Addr} {o : Obj} (e : g.get? a = some o) (S : ST g p l h) : p ≠ some a := fun q => by
  have := (S a q).1
  rw [e] at this; cases this

theorem EJ.tuple {es : List Expr} {k : Nat} {pos : Pos} {as : List AV} {ds : List PyData} (h : EsJ C n env ρ l es as l') (hd : datsOf as = some ds) (hz : as.length ≤ 100) : EJ C n env ρ l (.Tuple es k pos) (.dat (.tuple ds)) l' := by
  refine ⟨?_⟩
  intro A s g Q E RM hg gh hF S k
  refine Tuple_ ((h.run pos).run A s g _ _ RM hg gh hF S fun vs g1 hp1 tk x S1 a1 => ?_)
  have hl := avRs_length a1
  obtain ⟨g2, y, e⟩ := Stp.alloc (W := fun _ => False) x.gh (tupO vs) rfl
  refine wpAny_newTuple ?_ (by rw [hl, sizeLine_eq]; omega)
  exact k _ g2 _ _ (x.trans' (y.weak fun _ _ _ f => f.elim)) (S1.step y fun _ _ f => f.elim) (Rd.tup e ((rdAll_of hd a1).mono y.gg))
theorem EJ.list {es : List Expr} {pos : Pos} {as : List AV} {ds : List PyData} (h : EsJ C n env ρ l es as l') (hd : datsOf as = some ds) (hz : as.length ≤ 100) : EJ C n env ρ l (.List es pos) (.dat (.list ds)) l' := by
  refine ⟨?_⟩
  intro A s g Q E RM hg gh hF S k
  refine List_ ((h.run pos).run A s g _ _ RM hg gh hF S fun vs g1 hp1 tk x S1 a1 => ?_)
  have hl := avRs_length a1
  obtain ⟨g2, y, e⟩ := Stp.alloc (W := fun _ => False) x.gh (lstO vs) rfl
  refine wpAny_newList ?_ (by rw [hl, sizeLine_eq]; omega)
  exact k _ g2 _ _ (x.trans' (y.weak fun _ _ _ f => f.elim)) (S1.step y fun _ _ f => f.elim) (Rd.lst e ((rdAll_of hd a1).mono y.gg))
end
end Mine
namespace Mine
section
variable {C : Cx} {n : Nat} {env : Env} {ρ : Rho} {l l' l₁ l₂ l₃ : List PyData}

/-- an operation on two ints whose rule is known -/
theorem OJ2.ints {i j : Int} {r : PyData} {t : Value → Value → Sem Value}
    (h : ∀ {A : Around} {Q : Value → Shared → Prop} {E : Value → Shared → Prop} {s : Shared} {a b : Tok}, Room n A → (∀ v tk, (∀ g, Rd g v r) → Q v { s with toks := tk }) → wpAny (model C.prog C.w) A (t (.int i a) (.int j b)) Q E s) :
    OJ2 C n (.dat (.int i)) (.dat (.int j)) l t (.dat r) l := by
  intro v u
  refine ⟨?_⟩
  intro A s g Q E RM hg gh hF S k
  obtain ⟨a, rfl⟩ := Rd.int_inv hF.1
  obtain ⟨b, rfl⟩ := Rd.int_inv hF.2
  exact h RM fun v tk hv => k v g s.heap tk (Stp.refl gh) S (hv g)
theorem OJ2.add {i j : Int} : OJ2 C n (.dat (.int i)) (.dat (.int j)) l (binaryOp .Add) (.dat (.int (i + j))) l := OJ2.ints fun _ h => PyProof.Rows.add_int (h _ _ fun _ => Rd.int)
theorem OJ2.sub {i j : Int} : OJ2 C n (.dat (.int i)) (.dat (.int j)) l (binaryOp .Sub) (.dat (.int (i - j))) l := OJ2.ints fun _ h => PyProof.Rows.sub_int (h _ _ fun _ => Rd.int)
theorem OJ2.mul {i j : Int} (hm : IntMulOk i j) : OJ2 C n (.dat (.int i)) (.dat (.int j)) l (binaryOp .Mult) (.dat (.int (i * j))) l := OJ2.ints fun _ h => PyProof.Rows.mul_int (h _ _ fun _ => Rd.int) hm
theorem OJ2.mod {i j : Int} (hj : j ≠ 0) : OJ2 C n (.dat (.int i)) (.dat (.int j)) l (binaryOp .Mod) (.dat (.int (i.fmod j))) l := OJ2.ints fun _ h => PyProof.Rows.mod_int' hj (h _ _ fun _ => Rd.int)
theorem OJ2.div {i j : Int} (hj : j ≠ 0) (hs : j.natAbs < 1073741824) : OJ2 C n (.dat (.int i)) (.dat (.int j)) l (binaryOp .FloorDiv) (.dat (.int (i.fdiv j))) l := OJ2.ints fun _ h => PyProof.Rows.floordiv_int hj (h _ _ fun _ => Rd.int) (Or.inl (PyProof.noPylong_small hs))
theorem OJ2.pow {i j : Int} (hj : 0 ≤ j) (hs : (Builtin.Int.intBits i : Int) * j ≤ 2 ^ 27) : OJ2 C n (.dat (.int i)) (.dat (.int j)) l (binaryOp .Pow) (.dat (.int (i ^ j.toNat))) l := OJ2.ints fun _ h => PyProof.Rows.pow_int hj hs (h _ _ fun _ => Rd.int)
theorem OJ2.lt {i j : Int} : OJ2 C n (.dat (.int i)) (.dat (.int j)) l (compareOp .Lt) (.dat (.bool (decide (i < j)))) l := OJ2.ints fun _ h => PyProof.Rows.lt_int (h _ _ fun _ => Rd.bool)
theorem OJ2.gt {i j : Int} : OJ2 C n (.dat (.int i)) (.dat (.int j)) l (compareOp .Gt) (.dat (.bool (decide (j < i)))) l := OJ2.ints fun _ h => PyProof.Rows.gt_int (h _ _ fun _ => Rd.bool)
theorem OJ2.ge {i j : Int} : OJ2 C n (.dat (.int i)) (.dat (.int j)) l (compareOp .GtE) (.dat (.bool (decide (j ≤ i)))) l := OJ2.ints fun _ h => PyProof.Rows.ge_int (h _ _ fun _ => Rd.bool)
theorem OJ2.eqi {i j : Int} : OJ2 C n (.dat (.int i)) (.dat (.int j)) l (compareOp .Eq) (.dat (.bool (i == j))) l := OJ2.ints fun _ h => PyProof.Rows.eq_int (h _ _ fun _ => Rd.bool)
theorem OJ2.nei {i j : Int} : OJ2 C n (.dat (.int i)) (.dat (.int j)) l (compareOp .NotEq) (.dat (.bool (i != j))) l := OJ2.ints fun _ h => PyProof.Rows.ne_int (h _ _ fun _ => Rd.bool)
theorem OJ2.eqs {x y : Str} : OJ2 C n (.dat (.str x)) (.dat (.str y)) l (compareOp .Eq) (.dat (.bool (x == y))) l := by
  intro v u
  refine ⟨?_⟩
  intro A s g Q E RM hg gh hF S k
  obtain ⟨a, rfl⟩ := Rd.str_inv hF.1
  obtain ⟨b, rfl⟩ := Rd.str_inv hF.2
  exact PyProof.Rows.eq_str (k _ g s.heap s.toks (Stp.refl gh) S Rd.bool)
theorem OJ2.nes {x y : Str} : OJ2 C n (.dat (.str x)) (.dat (.str y)) l (compareOp .NotEq) (.dat (.bool (x != y))) l := by
  intro v u
  refine ⟨?_⟩
  intro A s g Q E RM hg gh hF S k
  obtain ⟨a, rfl⟩ := Rd.str_inv hF.1
  obtain ⟨b, rfl⟩ := Rd.str_inv hF.2
  exact PyProof.Rows.ne_str (k _ g s.heap s.toks (Stp.refl gh) S Rd.bool)
theorem OJ1.neg {i : Int} : OJ1 C n (.dat (.int i)) l (unaryOp .USub) (.dat (.int (-i))) l := by
  intro v
  refine ⟨?_⟩
  intro A s g Q E RM hg gh hF S k
  obtain ⟨a, rfl⟩ := Rd.int_inv hF
  exact PyProof.Rows.neg_int (k _ g s.heap _ (Stp.refl gh) S Rd.int)

theorem Rd.up {g h : Heap} {v : Value} {d : PyData} (x : Rd g v d) (k : Le g h) : ∃ as, Reads h v d as := x.mono k
/-- == of data -/
theorem OJ2.eqd {a b : PyData} (ha : SeqAt.shaped a = true) (hb : SeqAt.shaped b = true) : OJ2 C n (.dat a) (.dat b) l (compareOp .Eq) (.dat (.bool (PyData.eqv a b))) l := by
  intro v u
  refine ⟨?_⟩
  intro A s g Q E RM hg gh hF S k
  obtain ⟨_, r1⟩ := Rd.up hF.1 gh
  obtain ⟨_, r2⟩ := Rd.up hF.2 gh
  exact SeqAt.compareEq_shaped r1 r2 ha hb (by have := RM.2.2; rw [cLine_is]; omega) (k _ g s.heap s.toks (Stp.refl gh) S Rd.bool)
theorem OJ2.ned {a b : PyData} (ha : SeqAt.shaped a = true) (hb : SeqAt.shaped b = true) : OJ2 C n (.dat a) (.dat b) l (compareOp .NotEq) (.dat (.bool (!PyData.eqv a b))) l := by
  intro v u
  refine ⟨?_⟩
  intro A s g Q E RM hg gh hF S k
  obtain ⟨_, r1⟩ := Rd.up hF.1 gh
  obtain ⟨_, r2⟩ := Rd.up hF.2 gh
  exact SeqAt.compareNe_shaped r1 r2 ha hb (by have := RM.2.2; rw [cLine_is]; omega) (k _ g s.heap s.toks (Stp.refl gh) S Rd.bool)
theorem room_min {n : Nat} {A : Around} {xs : List PyData} {d : PyData} (RM : Room n A) (hd : d.depth ≤ 64) : A.units + 1 + min (PyData.depthAll xs) d.depth < cLine := by
  have h2 : min (PyData.depthAll xs) d.depth ≤ d.depth := Nat.min_le_right _ _
  have := RM.2.2
  rw [cLine_is]; omega
theorem OJ2.inl {xs : List PyData} {d : PyData} (hx : PyData.canLayAll0 xs = true) (hd : d.canLay0 = true) (hz : d.depth ≤ 64) : OJ2 C n (.dat d) (.dat (.list xs)) l (compareOp .In) (.dat (.bool (xs.any fun y => PyData.eqv y d))) l := by
  intro v u
  refine ⟨?_⟩
  intro A s g Q E RM hg gh hF S k
  obtain ⟨_, r1⟩ := Rd.up hF.1 gh
  obtain ⟨_, r2⟩ := Rd.up hF.2 gh
  exact SeqAt.in_list_reads r2 r1 hx hd (room_min RM hz) (k _ g s.heap s.toks (Stp.refl gh) S Rd.bool)
theorem OJ2.ninl {xs : List PyData} {d : PyData} (hx : PyData.canLayAll0 xs = true) (hd : d.canLay0 = true) (hz : d.depth ≤ 64) : OJ2 C n (.dat d) (.dat (.list xs)) l (compareOp .NotIn) (.dat (.bool (!xs.any fun y => PyData.eqv y d))) l := by
  intro v u
  refine ⟨?_⟩
  intro A s g Q E RM hg gh hF S k
  obtain ⟨_, r1⟩ := Rd.up hF.1 gh
  obtain ⟨_, r2⟩ := Rd.up hF.2 gh
  exact SeqAt.notIn_list_reads r2 r1 hx hd (room_min RM hz) (k _ g s.heap s.toks (Stp.refl gh) S Rd.bool)
theorem OJ2.int {xs : List PyData} {d : PyData} (hx : PyData.canLayAll0 xs = true) (hd : d.canLay0 = true) (hz : d.depth ≤ 64) : OJ2 C n (.dat d) (.dat (.tuple xs)) l (compareOp .In) (.dat (.bool (xs.any fun y => PyData.eqv y d))) l := by
  intro v u
  refine ⟨?_⟩
  intro A s g Q E RM hg gh hF S k
  obtain ⟨_, r1⟩ := Rd.up hF.1 gh
  obtain ⟨_, r2⟩ := Rd.up hF.2 gh
  exact SeqAt.in_tuple_reads r2 r1 hx hd (room_min RM hz) (k _ g s.heap s.toks (Stp.refl gh) S Rd.bool)

theorem OJ2.in2 {a b x : Str} (ha : PyData.strOk a = true) (hb : PyData.strOk b = true) (hx : PyData.strOk x = true) : OJ2 C n (.dat (.str x)) (.dat (.list [.str a, .str b])) l (compareOp .In) (.dat (.bool (a == x || b == x))) l := by
  have := OJ2.inl (C := C) (n := n) (l := l) (xs := [.str a, .str b]) (d := .str x) (by simp [PyData.canLayAll0, PyData.canLay0, ha, hb]) (by simp [PyData.canLay0, hx]) (by simp [PyData.depth])
  simpa [PyData.eqv] using this
theorem OJ2.int2 {a b x : Str} (ha : PyData.strOk a = true) (hb : PyData.strOk b = true) (hx : PyData.strOk x = true) : OJ2 C n (.dat (.str x)) (.dat (.tuple [.str a, .str b])) l (compareOp .In) (.dat (.bool (a == x || b == x))) l := by
  have := OJ2.int (C := C) (n := n) (l := l) (xs := [.str a, .str b]) (d := .str x) (by simp [PyData.canLayAll0, PyData.canLay0, ha, hb]) (by simp [PyData.canLay0, hx]) (by simp [PyData.depth])
  simpa [PyData.eqv] using this

/-! items -/
theorem seqIndex_nat {k : Int} {m : Nat} (h0 : 0 ≤ k) (hk : k.toNat < m) : seqIndex? k m = some k.toNat := by
  unfold seqIndex?
  have h1 : ¬ k < 0 := by omega
  rw [if_neg h1]
  have h2 : (decide (0 ≤ k) && decide (k < (m : Int))) = true := by simp; omega
  simp only [h2, if_true]

theorem Rd.isTup {g h : Heap} {v : Value} {ds : List PyData} (x : Rd g v (.tuple ds)) (k : Le g h) : ∃ a vs, v = .ref a ∧ IsTup h a (List.toArray vs) ∧ RdAll g vs ds := by
  obtain ⟨a, o, vs, n, e1, e2, e3, e4, e5⟩ := x.tup_inv
  exact ⟨a, vs, e1, ⟨o, k _ _ e2, e3, n, e4⟩, e5⟩
theorem Rd.isLst {g h : Heap} {v : Value} {ds : List PyData} (x : Rd g v (.list ds)) (k : Le g h) : ∃ a vs, v = .ref a ∧ h.IsList a (List.toArray vs) ∧ RdAll g vs ds := by
  obtain ⟨a, o, vs, n, e1, e2, e3, e4, e5⟩ := x.lst_inv
  exact ⟨a, vs, e1, ⟨o, k _ _ e2, e3, n, e4⟩, e5⟩

abbrev PlainSub (slice : Expr) : Prop := ∀ o i : Value, subscripted slice false o i = operate [o, i] (getItem o i)
theorem OJ2.itemT {value slice : Expr} {ds : List PyData} {k : Int} {d : PyData} (h0 : 0 ≤ k) (hk : ds[k.toNat]? = some d) (hz : k < 2 ^ 63) (hs : PlainSub slice) : OJ2 C n (.dat (.tuple ds)) (.dat (.int k)) l (subscriptTail value slice) (.dat d) l := by
  intro v u
  refine ⟨?_⟩
  intro A s g Q E RM hg gh hF S kk
  obtain ⟨a, vs, rfl, ht, hr⟩ := Rd.isTup hF.1 gh
  obtain ⟨b, rfl⟩ := Rd.int_inv hF.2
  obtain ⟨x, hx, hd⟩ := hr.get hk
  have hlt : k.toNat < vs.length := (List.getElem?_eq_some_iff.mp hx).1
  exact tail_any ht.typeIs slot_tuple_getitem.lookup (PyProof.Rows.getItem_tuple ht (by omega) hz (by rw [List.size_toArray]; exact seqIndex_nat h0 hlt) (by simpa using hx) (kk x g s.heap s.toks (Stp.refl gh) S hd)) (hs _ _)
theorem OJ2.itemL {value slice : Expr} {ds : List PyData} {k : Int} {d : PyData} (h0 : 0 ≤ k) (hk : ds[k.toNat]? = some d) (hz : k < 2 ^ 63) (hs : PlainSub slice) : OJ2 C n (.dat (.list ds)) (.dat (.int k)) l (subscriptTail value slice) (.dat d) l := by
  intro v u
  refine ⟨?_⟩
  intro A s g Q E RM hg gh hF S kk
  obtain ⟨a, vs, rfl, ht, hr⟩ := Rd.isLst hF.1 gh
  obtain ⟨b, rfl⟩ := Rd.int_inv hF.2
  obtain ⟨x, hx, hd⟩ := hr.get hk
  exact tail_any ht.typeIs slot_list_getitem.lookup (wpAny_getItem_list ht h0 hz (by simpa using hx) (kk x g s.heap s.toks (Stp.refl gh) S hd)) (hs _ _)
/-- an item of the list that may change -/
theorem OJ2.itemM {value slice : Expr} {a : Addr} {k : Int} {d : PyData} (hp : C.p = some a) (h0 : 0 ≤ k) (hk : l[k.toNat]? = some d) (hz : k < 2 ^ 63) (hs : PlainSub slice) : OJ2 C n (.val (.ref a)) (.dat (.int k)) l (subscriptTail value slice) (.dat d) l := by
  intro v u
  refine ⟨?_⟩
  intro A s g Q E RM hg gh hF S kk
  obtain ⟨rfl, h2⟩ := hF
  obtain ⟨b, rfl⟩ := Rd.int_inv h2
  obtain ⟨_, vs, ht, hr⟩ := S a hp
  obtain ⟨x, hx, hd⟩ := hr.get hk
  exact tail_any ht.isList.typeIs slot_list_getitem.lookup (wpAny_getItem_list ht.isList h0 hz (by simpa using hx) (kk x g s.heap s.toks (Stp.refl gh) S hd)) (hs _ _)

/-! concatenation -/
theorem RdAll.nilOf {g : Heap} {vs : List Value} {ds : List PyData} (x : RdAll g vs ds) : vs = [] ↔ ds = [] := by
  have := x.length
  rw [← List.length_eq_zero_iff, ← List.length_eq_zero_iff (l := ds), this]
theorem OJ2.catL {xs ys : List PyData} (hz : xs.length + ys.length ≤ 100000) : OJ2 C n (.dat (.list xs)) (.dat (.list ys)) l (binaryOp .Add) (.dat (.list (xs ++ ys))) l := by
  intro v u
  refine ⟨?_⟩
  intro A s g Q E RM hg gh hF S kk
  obtain ⟨a, ⟨cls, dd, data, sl⟩, vs, i, rfl, e2, e3, e4, e5⟩ := Rd.lst_inv hF.1
  obtain ⟨b, ⟨cls', dd', data', sl'⟩, ws, j, rfl, f2, f3, f4, f5⟩ := Rd.lst_inv hF.2
  simp only at e3 e4 f3 f4
  subst e3 e4 f3 f4
  have ha := gh _ _ e2
  have hb := gh _ _ f2
  obtain ⟨g2, y, e⟩ := Stp.alloc (W := fun _ => False) gh (lstO (vs ++ ws)) rfl
  refine concat_meets ⟨_, ha, rfl⟩ ⟨_, hb, rfl⟩ noFill_list_add seq_list_add PySem.F.slot_list_add PySem.F.entry_list_add (PySem.F.args_list_add_2 _ _) (list_addW a b (List.toArray vs) (List.toArray ws) i j dd dd' sl sl' (by rw [List.size_toArray, List.size_toArray, e5.length, f5.length, sizeLine_eq]; omega)) ⟨ha, hb, ?_⟩
  rw [show List.toArray vs ++ List.toArray ws = List.toArray (vs ++ ws) by simp]
  exact kk _ g2 _ _ (y.weak fun _ _ _ f => f.elim) (S.step y fun _ _ f => f.elim) (Rd.lst e ((e5.append f5).mono y.gg))
theorem OJ2.catT {xs ys : List PyData} (hz : xs.length + ys.length ≤ 100000) : OJ2 C n (.dat (.tuple xs)) (.dat (.tuple ys)) l (binaryOp .Add) (.dat (.tuple (xs ++ ys))) l := by
  intro v u
  refine ⟨?_⟩
  intro A s g Q E RM hg gh hF S kk
  obtain ⟨a, ⟨cls, dd, data, sl⟩, vs, i, rfl, e2, e3, e4, e5⟩ := Rd.tup_inv hF.1
  obtain ⟨b, ⟨cls', dd', data', sl'⟩, ws, j, rfl, f2, f3, f4, f5⟩ := Rd.tup_inv hF.2
  simp only at e3 e4 f3 f4
  subst e3 e4 f3 f4
  have ha := gh _ _ e2
  have hb := gh _ _ f2
  by_cases hv : vs = []
  · have hx := e5.nilOf.mp hv
    subst hx
    exact concat_meets ⟨_, ha, rfl⟩ ⟨_, hb, rfl⟩ noFill_tuple_add seq_tuple_add PySem.F.slot_tuple_add PySem.F.entry_tuple_add (PySem.F.args_tuple_add_2 _ _)
      (tuple_addW0 a b (List.toArray vs) (List.toArray ws) i j dd dd' sl sl' (by simp [hv])) ⟨ha, hb, kk _ g s.heap _ (Stp.refl gh) S hF.2⟩
  · by_cases hw : ws = []
    · have hy := f5.nilOf.mp hw
      subst hy
      rw [List.append_nil] at kk
      exact concat_meets ⟨_, ha, rfl⟩ ⟨_, hb, rfl⟩ noFill_tuple_add seq_tuple_add PySem.F.slot_tuple_add PySem.F.entry_tuple_add (PySem.F.args_tuple_add_2 _ _)
        (tuple_addW1 a b (List.toArray vs) (List.toArray ws) i j dd dd' sl sl' (by simpa using hv) (by simp [hw])) ⟨ha, hb, kk _ g s.heap _ (Stp.refl gh) S hF.1⟩
    · obtain ⟨g2, y, e⟩ := Stp.alloc (W := fun _ => False) gh (tupO (vs ++ ws)) rfl
      refine concat_meets ⟨_, ha, rfl⟩ ⟨_, hb, rfl⟩ noFill_tuple_add seq_tuple_add PySem.F.slot_tuple_add PySem.F.entry_tuple_add (PySem.F.args_tuple_add_2 _ _)
        (tuple_addW2 a b (List.toArray vs) (List.toArray ws) i j dd dd' sl sl' (by simpa using hv) (by simpa using hw) (by rw [List.size_toArray, List.size_toArray, e5.length, f5.length, sizeLine_eq]; omega)) ⟨ha, hb, ?_⟩
      rw [show List.toArray vs ++ List.toArray ws = List.toArray (vs ++ ws) by simp]
      exact kk _ g2 _ _ (y.weak fun _ _ _ f => f.elim) (S.step y fun _ _ f => f.elim) (Rd.tup e ((e5.append f5).mono y.gg))

/-! a tuple from its k-th item on -/
theorem EJ.tail {value : Expr} {i : Nat} {k : Nat} {kp sp pos : Pos} {ds : List PyData} (h : EJ C n env ρ l value (.dat (.tuple ds)) l') (h1 : 1 ≤ i) (hi : i ≤ ds.length) (hz : ds.length ≤ 100)
    (hg' : ∀ o r : Value, letTemporaryGo value o r = Pure.pure ()) :
    EJ C n env ρ l (.Subscript value (.Slice (some (.Constant (.int i) k kp)) none none sp) pos) (.dat (.tuple (ds.drop i))) l' := by
  refine ⟨?_⟩
  intro A s g Q E RM hg gh hF S kk
  refine Subscript_ (h.run A s g _ _ RM hg gh hF S fun v g1 hp1 tk x S1 a1 => ?_)
  obtain ⟨a, vs, rfl, ht, hr⟩ := Rd.isTup a1 x.gh
  have hl := hr.length
  rw [arm_eval_Slice]
  show wpAny _ _ (eval (.Constant (.int i) k kp) env >>= fun l => holding [l] (Pure.pure Value.none) >>= fun u => holding [l, u] (Pure.pure Value.none) >>= fun s => newFields "slice" [l, u, s]) _ _ _
  refine wpAny_bind (wpAny_Constant_int (wpAny_bind (wpAny_holding (wpAny_pure (wpAny_bind (wpAny_holding (wpAny_pure ?_)))))))
  refine wpAny_newObj_type ?_
  have ht' : IsTup (hp1.push { cls := .type "slice", data := .fields #[.int i tk, .none, .none] }) a (List.toArray vs) := ht.keeps fun _ _ e => Heap.get?_push_of_some _ e
  have y1 : Stp (fun _ => False) g1 hp1 g1 (hp1.push { cls := .type "slice", data := .fields #[.int i tk, .none, .none] }) := Stp.push x.gh _
  obtain ⟨g2, y, e⟩ := Stp.alloc (W := fun _ => False) y1.gh (tupO (vs.drop i)) rfl
  refine subscriptTail_ops (T := "tuple") ht'.typeIs slot_tuple_getitem.lookup
    (getItem_tuple_from ht' (Heap.IsSliceOf.new ..) h1 (by rw [List.size_toArray]; omega) ?_ (by rw [List.size_toArray, sizeLine_eq]; omega)) (ops := [.ref hp1.objs.size, .ref a]) ?_ (fun r => hg' _ r)
  · exact kk _ g2 _ _ ((x.trans' (y1.weak fun _ _ _ f => f.elim)).trans' (y.weak fun _ _ _ f => f.elim)) ((S1.step y1 fun _ _ f => f.elim).step y fun _ _ f => f.elim) (Rd.tup e ((hr.drop i).mono y.gg))
  · with_unfolding_all rfl
end
end Mine
namespace Mine

inductive AFl where
  | next
  | ret (a : AV)
def FlR (g : Heap) : Flow → AFl → Prop
  | .next, .next => True
  | .ret v, .ret a => AvR g v a
  | _, _ => False
/-- what a statement may change: the list at p, the frame's locals and cells -/
def WL (p : Option Addr) (env : Env) : Addr → Prop := fun b => p = some b ∨ b = env.locals ∨ (env.func.isSome = true ∧ ∃ x, env.cells.lookup x = some b)

structure XJ (C : Cx) (n : Nat) (env : Env) (ρ : Rho) (l : List PyData) (t : Sem Flow) (ρ' : Rho) (l' : List PyData) (fl : AFl) : Prop where
  run : ∀ (A : Around) (s : Shared) (g : Heap) (Q : Flow → Shared → Prop) (E : Value → Shared → Prop), Room n A → Le C.h₀ g → Le g s.heap → FR g C.p env ρ s.heap → ST g C.p l s.heap →
    (∀ f g' h' tk, Stp (WL C.p env) g s.heap g' h' → FR g' C.p env ρ' h' → ST g' C.p l' h' → FlR g' f fl → Q f { s with heap := h', toks := tk }) → wpAny (model C.prog C.w) A t Q E s
abbrev SJ (C : Cx) (n : Nat) (env : Env) (ρ : Rho) (l : List PyData) (st : Stmt) (ρ' : Rho) (l' : List PyData) (fl : AFl) : Prop := XJ C n env ρ l (exec st env) ρ' l' fl
abbrev BsJ (C : Cx) (n : Nat) (env : Env) (ρ : Rho) (l : List PyData) (b : List Stmt) (ρ' : Rho) (l' : List PyData) (fl : AFl) : Prop := XJ C n env ρ l (execs b env) ρ' l' fl

section
variable {C : Cx} {n : Nat} {env : Env} {ρ ρ' ρ₁ ρ₂ : Rho} {l l' l₁ l₂ l₃ : List PyData} {fl : AFl}

theorem isP_WL {p : Option Addr} {env : Env} {b : Addr} (h : isP p b) : WL p env b := .inl h
theorem Stp.up {p : Option Addr} {env : Env} {g h g' h' : Heap} (x : Stp (isP p) g h g' h') : Stp (WL p env) g h g' h' := x.weak fun _ _ _ h => isP_WL h

theorem XJ.le {m : Nat} {t : Sem Flow} (h : XJ C m env ρ l t ρ' l' fl) (hm : m ≤ n) : XJ C n env ρ l t ρ' l' fl := ⟨fun A s g Q E RM hg gh hF S k => h.run A s g Q E (RM.le hm) hg gh hF S k⟩
theorem XJ.sub {t : Sem Flow} (h : XJ C n env ρ l t ρ₁ l' fl) (hs : ∀ x a, ρ₂.lookup x = some a → ρ₁.lookup x = some a) : XJ C n env ρ l t ρ₂ l' fl :=
  ⟨fun A s g Q E RM hg gh hF S k => h.run A s g Q E RM hg gh hF S fun f g' h' tk x F' S' r => k f g' h' tk x (F'.sub hs) S' r⟩
theorem XJ.pre {t : Sem Flow} (h : XJ C n env ρ₁ l t ρ' l' fl) (hs : ∀ x a, ρ₁.lookup x = some a → ρ.lookup x = some a) : XJ C n env ρ l t ρ' l' fl :=
  ⟨fun A s g Q E RM hg gh hF S k => h.run A s g Q E RM hg gh (hF.sub hs) S k⟩

theorem BsJ.nil : BsJ C n env ρ l [] ρ l .next := ⟨fun A s g Q E RM hg gh hF S k => wpAny_execs_nil (k .next g s.heap s.toks (Stp.refl gh) hF S trivial)⟩
theorem BsJ.cons {st : Stmt} {rest : List Stmt} (h1 : SJ C n env ρ l st ρ₁ l₁ .next) (h2 : BsJ C n env ρ₁ l₁ rest ρ₂ l₂ fl) : BsJ C n env ρ l (st :: rest) ρ₂ l₂ fl := by
  refine ⟨?_⟩
  intro A s g Q E RM hg gh hF S k
  refine wpAny_execs_cons (h1.run A s g _ _ RM hg gh hF S fun f g1 hp1 tk x F1 S1 r => ?_)
  cases f with
  | next => exact h2.run A _ g1 _ _ RM (hg.trans x.gg) x.gh F1 S1 fun f g2 hp2 tk2 y F2 S2 r2 => k f g2 hp2 tk2 (x.trans' y) F2 S2 r2
  | _ => exact r.elim
theorem BsJ.ret {st : Stmt} {rest : List Stmt} {a : AV} (h1 : SJ C n env ρ l st ρ₁ l₁ (.ret a)) : BsJ C n env ρ l (st :: rest) ρ₁ l₁ (.ret a) := by
  refine ⟨?_⟩
  intro A s g Q E RM hg gh hF S k
  refine wpAny_execs_cons (h1.run A s g _ _ RM hg gh hF S fun f g1 hp1 tk x F1 S1 r => ?_)
  cases f with
  | ret v => exact k (.ret v) g1 hp1 tk x F1 S1 r
  | _ => exact r.elim
theorem SJ.ite {test : Expr} {body orelse : List Stmt} {pos : Pos} {c : Bool} (h1 : BJ C n env ρ l test c l₁) (h2 : BsJ C n env ρ l₁ (if c then body else orelse) ρ₂ l₂ fl) : SJ C n env ρ l (.If test body orelse pos) ρ₂ l₂ fl := by
  refine ⟨?_⟩
  intro A s g Q E RM hg gh hF S k
  refine wpAny_If (h1.run A s g _ _ RM hg gh hF S fun v g1 hp1 tk x S1 a1 => ?_)
  cases a1
  cases c with
  | false => exact h2.run A _ g1 _ _ RM (hg.trans x.gg) x.gh (hF.stepP x) S1 fun f g2 hp2 tk2 y F2 S2 r2 => k f g2 hp2 tk2 (x.up.trans' y) F2 S2 r2
  | true => exact h2.run A _ g1 _ _ RM (hg.trans x.gg) x.gh (hF.stepP x) S1 fun f g2 hp2 tk2 y F2 S2 r2 => k f g2 hp2 tk2 (x.up.trans' y) F2 S2 r2
theorem SJ.ret {e : Expr} {pos : Pos} {a : AV} (h1 : EJ C n env ρ l e a l₁) : SJ C n env ρ l (.Return (some e) pos) [] l₁ (.ret a) := by
  refine ⟨?_⟩
  intro A s g Q E RM hg gh hF S k
  exact wpAny_Return_some (h1.run A s g _ _ RM hg gh hF S fun v g1 hp1 tk x S1 a1 => k (.ret v) g1 hp1 tk x.up ((hF.stepP x).sub fun _ _ e => by cases e) S1 a1)
theorem SJ.ret0 {pos : Pos} : SJ C n env ρ l (.Return none pos) [] l (.ret (.dat .none)) := ⟨fun A s g Q E RM hg gh hF S k => wpAny_Return_none (k _ g s.heap s.toks (Stp.refl gh) (hF.sub fun _ _ e => by cases e) S Rd.none)⟩
theorem BsJ.nilE : BsJ C n env ρ l [] [] l .next := BsJ.nil.sub fun _ _ e => by cases e
theorem SJ.expr {e : Expr} {pos : Pos} {a : AV} (h1 : EJ C n env ρ l e a l₁) (hi : interactive env = false) (hs : swapsWith e none pos.line env = Pure.pure false) : SJ C n env ρ l (.Expr e pos) ρ l₁ .next := by
  refine ⟨?_⟩
  intro A s g Q E RM hg gh hF S k
  exact wpAny_Expr_any (h1.run A s g _ _ RM hg gh hF S fun v g1 hp1 tk x S1 a1 => k .next g1 hp1 tk x.up (hF.stepP x) S1 trivial) hi hs

/-- a store into a local or a cell -/
def StoreOk (env : Env) (x : Str) : Prop := env.scope.kind = .function ∧ (env.kindOf x = some .local ∨ (env.kindOf x = some .cell ∧ (env.cells.lookup x).isSome = true ∧ env.func.isSome = true))
theorem store_J {x : Str} {a : AV} {v : Value} (hx : StoreOk env x) {A : Around} {s : Shared} {g : Heap} {Q : Unit → Shared → Prop} {E : Value → Shared → Prop} (gh : Le g s.heap) (hF : FR g C.p env ρ s.heap) (S : ST g C.p l s.heap) (ha : AvR g v a)
    (k : ∀ h' tk, Stp (WL C.p env) g s.heap g h' → FR g C.p env ((x, a) :: ρ) h' → ST g C.p l h' → Q () { s with heap := h', toks := tk }) : wpAny (model C.prog C.w) A (storeName env x v) Q E s := by
  obtain ⟨hk, hx⟩ := hx
  obtain ⟨m, hn, hm⟩ := hF.ns
  have hlk : ∀ y b, ((x, a) :: ρ).lookup y = some b → (y = x ∧ b = a) ∨ (y ≠ x ∧ ρ.lookup y = some b) := fun y b e => by
    rw [List.lookup_cons] at e
    cases q : y == x with
    | true => rw [q] at e; exact .inl ⟨beq_iff_eq.mp q, (Option.some.inj e).symm⟩
    | false => rw [q] at e; exact .inr ⟨beq_eq_false_iff_ne.mp q, e⟩
  rcases hx with hx | ⟨hx, hc, hfn⟩
  · refine wpAny_storeName_local hx hn (fun h' hn' hs => ?_) (by rw [hk]; rfl)
    obtain ⟨oL, eL⟩ : ∃ o, h'.get? env.locals = some o := let ⟨o, _, _, e, _⟩ := hn'; ⟨o, e⟩
    have st : Stp (fun b => b = env.locals) g s.heap g h' := Stp.same gh hF.lg rfl hs eL
    refine k h' _ (st.weak fun _ _ _ e => .inr (.inl e)) ⟨⟨_, hn', fun y b e kk => ?_⟩, fun y b e kk => ?_, hF.lg, hF.lp, fun y c e => ?_, hF.cu⟩ (S.step st fun b e q => hF.lp (by rw [e, q]))
    · rcases hlk y b e with ⟨rfl, rfl⟩ | ⟨hne, e'⟩
      · exact ⟨v, by simp, ha⟩
      · obtain ⟨u, e1, e2⟩ := hm y b e' kk
        exact ⟨u, by simp [hne, e1], e2⟩
    · rcases hlk y b e with ⟨rfl, rfl⟩ | ⟨hne, e'⟩
      · exact absurd hx kk
      · obtain ⟨c, o, u, e1, e2, e3, e4⟩ := hF.cell y b e' kk
        exact ⟨c, o, u, e1, hs.extBut c o (hF.cg y c e1).2.2.1 e2, e3, e4⟩
    · obtain ⟨a1, a2, a3, o, u, a4, a5⟩ := hF.cg y c e
      exact ⟨a1, a2, a3, o, u, hs.extBut c o a3 a4, a5⟩
  · obtain ⟨c, hc⟩ := Option.isSome_iff_exists.mp hc
    obtain ⟨a1, a2, a3, o, u, a4, a5⟩ := hF.cg x c hc
    refine wpAny_storeName_cell hk hx hc ⟨o, a4, a5⟩ fun h' hv hs => ?_
    obtain ⟨o', ho', hd'⟩ := hv
    have st : Stp (fun b => b = c) g s.heap g h' := Stp.same gh a1 rfl hs ho'
    refine k h' _ (st.weak fun _ _ _ e => .inr (.inr ⟨hfn, x, by rw [e]; exact hc⟩)) ⟨⟨m, hn.sameBut hs (Ne.symm a3), fun y b e kk => ?_⟩, fun y b e kk => ?_, hF.lg, hF.lp, fun y c' e => ?_, hF.cu⟩ (S.step st fun b e q => a2 (by rw [e, q]))
    · rcases hlk y b e with ⟨rfl, rfl⟩ | ⟨hne, e'⟩
      · rw [hx] at kk; cases kk
      · exact hm y b e' kk
    · rcases hlk y b e with ⟨rfl, rfl⟩ | ⟨hne, e'⟩
      · exact ⟨c, o', v, hc, ho', hd', ha⟩
      · obtain ⟨c', o2, u2, e1, e2, e3, e4⟩ := hF.cell y b e' kk
        exact ⟨c', o2, u2, e1, hs.extBut c' o2 (fun q => hne (hF.cu y x c' e1 (q ▸ hc))) e2, e3, e4⟩
    · by_cases q : c' = c
      · subst q
        exact ⟨a1, a2, a3, o', some v, ho', hd'⟩
      · obtain ⟨b1, b2, b3, o2, u2, b4, b5⟩ := hF.cg y c' e
        exact ⟨b1, b2, b3, o2, u2, hs.extBut c' o2 q b4, b5⟩
theorem SJ.assign {x : Str} {p' pos : Pos} {e : Expr} {a : AV} (h1 : EJ C n env ρ l e a l₁) (hx : StoreOk env x) (hs : swapsWith e (some (.Name x p')) pos.line env = Pure.pure false) : SJ C n env ρ l (.Assign [.Name x p'] e pos) ((x, a) :: ρ) l₁ .next := by
  refine ⟨?_⟩
  intro A s g Q E RM hg gh hF S k
  refine wpAny_Assign_Name (h1.run A s g _ _ RM hg gh hF S fun v g1 hp1 tk x S1 a1 => ?_) hs
  exact store_J hx x.gh (hF.stepP x) S1 a1 fun h' tk' y F2 S2 => k .next g1 h' tk' (x.up.trans' y) F2 S2 trivial

/-! calls -/
theorem EJ.callb {func e : Expr} {rest : List Expr} {pos : Pos} {id : String} {as : List AV} {r : AV} (hf : EJ C n env ρ l func (.val (.builtin id)) l₁) (ha : EsJ C n env ρ l₁ (e :: rest) as l₂) (hc : CJ C n (.builtin id) as l₂ r l₃)
    (he : eval (.Call func (e :: rest) [] pos) env = (do callWith pos (← eval func env) [] (backTo pos (starEach (e :: rest) env)) (backToKw pos (keywordEach [] env))))
    (hst : starEach (e :: rest) env = (false, eval e env) :: starEach rest env) (hpl : (backTo pos (starEach rest env)).any (·.1) = false) : EJ C n env ρ l (.Call func (e :: rest) [] pos) r l₃ := by
  refine ⟨?_⟩
  intro A s g Q E RM hg gh hF S k
  refine Call_ (hf.run A s g _ _ RM hg gh hF S fun v g1 hp1 tk x S1 a1 => ?_) he
  cases a1
  refine PyProof.Rows.callWith_builtin1 ((ha.run pos).run A _ g1 _ _ RM (hg.trans x.gg) x.gh (hF.stepP x) S1 fun vs g2 hp2 tk2 y S2 a2 => ?_) hst hpl
  exact (hc vs).run A _ g2 _ _ RM ((hg.trans x.gg).trans y.gg) y.gh a2 S2 fun r g3 hp3 tk3 z S3 a3 => k r g3 hp3 tk3 ((x.trans' y).trans' z) S3 a3
theorem EJ.callt {func e : Expr} {rest : List Expr} {pos : Pos} {T : String} {as : List AV} {r : AV} (hf : EJ C n env ρ l func (.val (.type T)) l₁) (ha : EsJ C n env ρ l₁ (e :: rest) as l₂) (hc : CJ C n (.type T) as l₂ r l₃)
    (he : eval (.Call func (e :: rest) [] pos) env = (do callWith pos (← eval func env) [] (backTo pos (starEach (e :: rest) env)) (backToKw pos (keywordEach [] env))))
    (hst : starEach (e :: rest) env = (false, eval e env) :: starEach rest env) (hpl : (backTo pos (starEach rest env)).any (·.1) = false) : EJ C n env ρ l (.Call func (e :: rest) [] pos) r l₃ := by
  refine ⟨?_⟩
  intro A s g Q E RM hg gh hF S k
  refine Call_ (hf.run A s g _ _ RM hg gh hF S fun v g1 hp1 tk x S1 a1 => ?_) he
  cases a1
  refine PyProof.Rows.callWith_type1 ((ha.run pos).run A _ g1 _ _ RM (hg.trans x.gg) x.gh (hF.stepP x) S1 fun vs g2 hp2 tk2 y S2 a2 => ?_) hst hpl
  exact (hc vs).run A _ g2 _ _ RM ((hg.trans x.gg).trans y.gg) y.gh a2 S2 fun r g3 hp3 tk3 z S3 a3 => k r g3 hp3 tk3 ((x.trans' y).trans' z) S3 a3
theorem EJ.callf {func e : Expr} {rest : List Expr} {pos : Pos} {f : Addr} {o : Obj} {fd : FuncData} {as : List AV} {r : AV} (hf : EJ C n env ρ l func (.val (.ref f)) l₁) (B : Bs C) (ho : (KK C.w).lookup f = some o) (hd : o.data = .func fd) (ha : EsJ C n env ρ l₁ (e :: rest) as l₂) (hc : CJ C n (.ref f) as l₂ r l₃)
    (he : eval (.Call func (e :: rest) [] pos) env = (do callWith pos (← eval func env) [] (backTo pos (starEach (e :: rest) env)) (backToKw pos (keywordEach [] env))))
    (hst : starEach (e :: rest) env = (false, eval e env) :: starEach rest env) : EJ C n env ρ l (.Call func (e :: rest) [] pos) r l₃ := by
  refine ⟨?_⟩
  intro A s g Q E RM hg gh hF S k
  refine Call_ (hf.run A s g _ _ RM hg gh hF S fun v g1 hp1 tk x S1 a1 => ?_) he
  cases a1
  refine callWith_def hd ((ha.run pos).run A _ g1 _ _ RM (hg.trans x.gg) x.gh (hF.stepP x) S1 fun vs g2 hp2 tk2 y S2 a2 => ⟨((hg.trans x.gg).trans y.gg).trans y.gh f o (B.X f o ho), ?_⟩) hst
  exact (hc vs).run A _ g2 _ _ RM ((hg.trans x.gg).trans y.gg) y.gh a2 S2 fun r g3 hp3 tk3 z S3 a3 => k r g3 hp3 tk3 ((x.trans' y).trans' z) S3 a3

inductive Callee (C : Cx) : Value → Prop
  | b (id : String) : Callee C (.builtin id)
  | t (T : String) : Callee C (.type T)
  | f {f : Addr} {o : Obj} {fd : FuncData} : Bs C → (KK C.w).lookup f = some o → o.data = .func fd → Callee C (.ref f)
theorem EJ.call {func e : Expr} {rest : List Expr} {pos : Pos} {fv : Value} {as : List AV} {r : AV} (hf : EJ C n env ρ l func (.val fv) l₁) (hcl : Callee C fv) (ha : EsJ C n env ρ l₁ (e :: rest) as l₂) (hc : CJ C n fv as l₂ r l₃)
    (he : eval (.Call func (e :: rest) [] pos) env = (do callWith pos (← eval func env) [] (backTo pos (starEach (e :: rest) env)) (backToKw pos (keywordEach [] env))))
    (hst : starEach (e :: rest) env = (false, eval e env) :: starEach rest env) (hpl : (backTo pos (starEach rest env)).any (·.1) = false) : EJ C n env ρ l (.Call func (e :: rest) [] pos) r l₃ := by
  cases hcl with
  | b id => exact EJ.callb hf ha hc he hst hpl
  | t T => exact EJ.callt hf ha hc he hst hpl
  | f B ho hd => exact EJ.callf hf B ho hd ha hc he hst

/-! the frame of a def -/
theorem bindL_notin {kO : Str → Option NameKind} : ∀ {binds : List (Str × Value)} {m : Str → Option Value} {x : Str}, x ∉ binds.map (·.1) → bindL kO binds m x = m x
  | [], _, _, _ => rfl
  | (y, v) :: r, m, x, h => by
    simp only [List.map_cons, List.mem_cons, not_or] at h
    rw [bindL, bindL_notin h.2]
    split
    · simp [h.1]
    · rfl
theorem bindL_get {kO : Str → Option NameKind} : ∀ {binds : List (Str × Value)} {m : Str → Option Value} {x : Str} {v : Value}, (binds.map (·.1)).Nodup → binds.lookup x = some v → kO x = some .local → bindL kO binds m x = some v
  | [], _, _, _, _, e, _ => by cases e
  | (y, u) :: r, m, x, v, hn, e, hk => by
    rw [List.map_cons, List.nodup_cons] at hn
    rw [List.lookup_cons] at e
    rw [bindL]
    cases q : x == y with
    | true =>
      rw [q] at e
      cases e
      obtain rfl := beq_iff_eq.mp q
      rw [bindL_notin hn.1, if_pos hk]; simp
    | false => rw [q] at e; exact bindL_get hn.2 e hk
theorem bindC_notin {kO : Str → Option NameKind} : ∀ {binds : List (Str × Value)} {m : Str → Option Value} {x : Str}, x ∉ binds.map (·.1) → bindC kO binds m x = m x
  | [], _, _, _ => rfl
  | (y, v) :: r, m, x, h => by
    simp only [List.map_cons, List.mem_cons, not_or] at h
    rw [bindC, bindC_notin h.2]
    split
    · rfl
    · simp [h.1]
theorem bindC_get {kO : Str → Option NameKind} : ∀ {binds : List (Str × Value)} {m : Str → Option Value} {x : Str} {v : Value}, (binds.map (·.1)).Nodup → binds.lookup x = some v → kO x ≠ some .local → bindC kO binds m x = some v
  | [], _, _, _, _, e, _ => by cases e
  | (y, u) :: r, m, x, v, hn, e, hk => by
    rw [List.map_cons, List.nodup_cons] at hn
    rw [List.lookup_cons] at e
    rw [bindC]
    cases q : x == y with
    | true =>
      rw [q] at e
      cases e
      obtain rfl := beq_iff_eq.mp q
      rw [bindC_notin hn.1, if_neg hk]; simp
    | false => rw [q] at e; exact bindC_get hn.2 e hk
theorem zip_lookup {g : Heap} : ∀ {xs : List Str} {vs : List Value} {as : List AV} {x : Str} {a : AV}, AvRs g vs as → (xs.zip as).lookup x = some a → ∃ v, (xs.zip vs).lookup x = some v ∧ AvR g v a
  | [], _, _, _, _, _, e => by cases e
  | _ :: _, [], [], _, _, _, e => by cases e
  | y :: xs, v :: vs, b :: as, x, a, h, e => by
    rw [List.zip_cons_cons, List.lookup_cons] at e ⊢
    cases q : x == y with
    | true => rw [q] at e; cases e; exact ⟨v, rfl, h.1⟩
    | false => rw [q] at e; exact zip_lookup h.2 e
  | _ :: _, [], _ :: _, _, _, h, _ => h.elim
  | _ :: _, _ :: _, [], _, _, h, _ => h.elim

theorem CJ.body {name qual : Str} {params : Arguments} {body : List Stmt} {scope : Scope} {dV kV doc pm cdv ct oc : Value} {an od : Option Addr} {osl : Array (Option Value)} {f : Addr} {xs : List Str} {as bs : List AV} {r : AV} {fl : AFl} (B : Bs C)
    (ho : (KK C.w).lookup f = some ⟨oc, od, .func (fnOf name qual params body scope dV kV doc pm an cdv ct), osl⟩) (hcd : codeIn (KK C.w) cdv qual = true)
    (hbind : ∀ (s : Shared) (g : Heap) (vs : List Value), Le C.h₀ s.heap → AvRs g vs as → ∃ us, BindsTo s (fnOf name qual params body scope dV kV doc pm an cdv ct) ⟨vs, []⟩ (xs.zip us) ∧ AvRs g us bs)
    (hlen : xs.length ≤ bs.length) (hnd : xs.Nodup)
    (hkind : ∀ k, ∀ x ∈ xs, scope.names.lookup x = some .local ∨ (scope.names.lookup x = some .cell ∧ ((cellsFrom k scope.names []).lookup x).isSome = true))
    (hfl : (match fl with | .ret a => a | .next => .dat .none) = r)
    (h : ∀ L, BsJ C n (envOfC qual scope L f cdv) (xs.zip bs) l body [] l' fl)
    (hco : scope.isCoroutine = false) (hgen : scope.isGenerator = false) (hk : scope.kind = .function) : CJ C (n + 1) (.ref f) as l r l' := by
  intro vs
  refine ⟨?_⟩
  intro A s g Q E RM hg gh hA S k
  obtain ⟨pr, loose, mg, mb, T⟩ := B.T
  have hs := hg.trans gh
  obtain ⟨us, hb, hu⟩ := hbind s g vs hs hA
  have hroom : A.depth < recursionLimit := by have := RM.2.1; show A.depth < 1000; omega
  have hul := avRs_length hu
  have hkeys : (xs.zip us).map (·.1) = xs := by
    rw [List.map_fst_zip (by omega)]
  refine wpAny_call (codeAny_call_function (fd := fnOf name qual params body scope dV kV doc pm an cdv ct) hroom (hs _ _ (B.X _ _ ho)) rfl hco hgen rfl (codeRec_of (B.X.keeps hs) hcd) (hb _ _ _ _ ?_))
  refine wpAny_newFunctionEnv_cells hk (fun x hx => hkind _ x.1 (by rw [← hkeys]; exact List.mem_map_of_mem hx)) fun env' he s' X => ?_
  subst he
  refine ⟨(T.nolimit.keeps hs).keeps X.toInCall.keep, codeAny_func ?_⟩
  obtain ⟨h₁, tk, rfl, hk₁⟩ := X.done
  have st0 : Stp (fun _ => False) g s.heap g h₁ := Stp.keeps gh hk₁
  have hnew : ∀ a, s.heap.objs.size ≤ a → g.get? a = none ∧ C.p ≠ some a := fun a ha => ⟨none_of_le gh (fresh_none ha), fun q => by
    obtain ⟨_, vs', ⟨_, e, _⟩, _⟩ := S a q
    rw [fresh_none ha] at e; cases e⟩
  have hF : FR g C.p (envOfC qual scope s.heap.objs.size f cdv) (xs.zip bs) h₁ := by
    refine ⟨⟨_, X.toInCall.ns, fun x a e kk => ?_⟩, fun x a e kk => ?_, (hnew _ (Nat.le_refl _)).1, (hnew _ (Nat.le_refl _)).2, fun x c e => ?_, fun x y c e e' => ?_⟩
    · obtain ⟨v, e1, e2⟩ := zip_lookup hu e
      exact ⟨v, bindL_get (by rw [hkeys]; exact hnd) e1 kk, e2⟩
    · obtain ⟨v, e1, e2⟩ := zip_lookup hu e
      have hx : x ∈ xs := by rw [← hkeys]; exact List.mem_map.mpr ⟨_, mem_of_lookup e1, rfl⟩
      rcases hkind (s.heap.objs.size + 1) x hx with q | ⟨q, q2⟩
      · exact absurd q kk
      · obtain ⟨c, hc⟩ := Option.isSome_iff_exists.mp q2
        obtain ⟨o, ho', hd'⟩ := X.cell x c hc
        exact ⟨c, o, v, hc, ho', hd'.trans (congrArg Data.cell (bindC_get (by rw [hkeys]; exact hnd) e1 kk)), e2⟩
    · have hab := X.above x c (mem_of_lookup e)
      have hab' : s.heap.objs.size < c := hab
      obtain ⟨o, ho', hd'⟩ := X.cell x c e
      exact ⟨(hnew c (Nat.le_of_lt hab')).1, (hnew c (Nat.le_of_lt hab')).2, Nat.ne_of_gt hab', o, _, ho', hd'⟩
    · exact name_of_addr X.apart (mem_of_lookup e) (mem_of_lookup e')
  refine (h s.heap.objs.size).run (A.deeper (envOfC qual scope s.heap.objs.size f cdv)) { s with heap := h₁, toks := tk } g _ _ (RM.deeper _) hg st0.gh hF (S.step st0 fun _ _ q => q) fun fw g' h' tk' x F' S' rr => ?_
  have hst : Stp (isP C.p) g s.heap g' h' := st0.trans x (fun _ _ _ q => q.elim) fun b o e q => by
    rcases q with q | q | ⟨_, y, q⟩
    · exact q
    · exact absurd (Heap.lt_size e) (by rw [q]; exact Nat.lt_irrefl _)
    · exact absurd (Heap.lt_size e) (Nat.not_lt.mpr (Nat.le_of_lt (X.above y b (mem_of_lookup q))))
  cases fl with
  | next =>
    cases fw with
    | next => cases hfl; exact k .none g' h' tk' hst S' Rd.none
    | _ => exact rr.elim
  | ret a =>
    cases fw with
    | ret v => cases hfl; exact k v g' h' tk' hst S' rr
    | _ => exact rr.elim

theorem binds_plain {fd : FuncData} {xs : List Str} {as : List AV} (h : ∀ vs : List Value, vs.length = as.length → bindArgs fd ⟨vs, []⟩ = Pure.pure (xs.zip vs)) :
    ∀ (s : Shared) (g : Heap) (vs : List Value), Le C.h₀ s.heap → AvRs g vs as → ∃ us, BindsTo s fd ⟨vs, []⟩ (xs.zip us) ∧ AvRs g us as :=
  fun s g vs _ x => ⟨vs, BindsTo.of_eq (h vs (avRs_length x)), x⟩
end
end Mine
namespace Mine
section
variable {C : Cx} {n : Nat} {env : Env} {ρ ρ' ρ₁ ρ₂ : Rho} {l l' l₁ l₂ l₃ : List PyData} {fl : AFl}

theorem AvRs.one {g : Heap} {vs : List Value} {a : AV} (h : AvRs g vs [a]) : ∃ v, vs = [v] ∧ AvR g v a := by
  match vs, h with
  | [v], h => exact ⟨v, rfl, h.1⟩
theorem AvRs.two {g : Heap} {vs : List Value} {a b : AV} (h : AvRs g vs [a, b]) : ∃ v u, vs = [v, u] ∧ AvR g v a ∧ AvR g u b := by
  match vs, h with
  | [v, u], h => exact ⟨v, u, rfl, h.1, h.2.1⟩

theorem RdAll.set {g : Heap} : ∀ {vs : List Value} {ds : List PyData} {v : Value} {d : PyData} (k : Nat), RdAll g vs ds → Rd g v d → RdAll g (vs.set k v) (ds.set k d)
  | vs, [], v, d, k, x, y => by rw [x.of_nil]; exact .nil
  | vs, e :: ds, v, d, k, x, y => by
    obtain ⟨u, vs', rfl, a, b⟩ := x.uncons
    cases k with
    | zero => exact .cons y b
    | succ k => exact .cons a (RdAll.set k b y)
theorem setList {vs : List Value} {k : Nat} {v : Value} : (List.toArray vs).setIfInBounds k v = List.toArray (vs.set k v) := by simp

/-- a store into a list leaves it with no dict of its own -/
theorem setItem_plain {prog : Program} {w : World} {A : Around} {E : Value → Shared → Prop} {s : Shared} {l : Addr} {items : Array Value} {k : Int} {t : Tok} {v : Value} {Q : Unit → Shared → Prop} (hp : s.heap.PlainList l items) (h0 : 0 ≤ k) (hfit : k < 2 ^ 63) (hn : k < items.size)
    (hQ : ∀ h', h'.PlainList l (items.setIfInBounds k.toNat v) → Heap.SameBut l s.heap h' → Q () { s with heap := h' }) : wpAny (model prog w) A (setItem (.ref l) (.int k t) v) Q E s := by
  obtain ⟨m, ho⟩ := hp
  have ht : s.TypeIs (.ref l) "list" := ⟨_, ho, rfl⟩
  unfold setItem
  refine wpAny_holding (wpAny_bind (wpAny_sequenceKey ht (by decide) ?_))
  refine wpAny_bind (wpAny_callSpecial?_slot (name := Str.ofString "__setitem__") ht slot_list_setitem (wpAny_call_entry slot_list_setitem ht entry_list_setitem ?_ (args_list_setitem _ _ _)))
  show wpAny _ _ (Builtin.List.listSubscript? (.int k t) >>= _) _ _ s
  refine wpAny_bind (wpAny_listSubscript_int (fitsIndex_of h0 hfit) ?_)
  clear hfit
  obtain ⟨j, rfl⟩ := Int.eq_ofNat_of_zero_le h0
  have hx : items[j]? = some items[j] := Array.getElem?_eq_getElem (by omega)
  show wpAny _ _ ((seqItemAt l j >>= fun r => pure (r.map (j, ·))) >>= _) _ _ s
  refine wpAny_bind (wpAny_bind (wpAny_seqItemAt ho rfl (wpAny_pure ?_)))
  rw [hx]
  show wpAny _ _ (setSeqItemAt l j v >>= _) _ _ s
  have fin : (s.heap.update l (Obj.mapSeq (·.setIfInBounds j v))).PlainList l (items.setIfInBounds j v) := by
    refine ⟨m, ?_⟩
    rw [Heap.get?_update_self _ ho (by rfl)]
    simp [Obj.mapSeq]
  refine wpAny_bind (wpAny_setSeqItemAt ho rfl ?_)
  exact wpAny_pure ⟨.none, rfl, wpAny_pure (hQ _ fin (Heap.SameBut.update ..))⟩
theorem SJ.setM {a : Addr} {o i value : Expr} {p' pos : Pos} {d : PyData} {k : Int} (hp : C.p = some a) (hv : EJ C n env ρ l value (.dat d) l₁) (ho : EJ C n env ρ l₁ o (.val (.ref a)) l₂) (hi : EJ C n env ρ l₂ i (.dat (.int k)) l₃)
    (h0 : 0 ≤ k) (hk : k.toNat < l₃.length) (hz : k < 2 ^ 63) (hs : swapsWith value (some (.Subscript o i p')) pos.line env = Pure.pure false) : SJ C n env ρ l (.Assign [.Subscript o i p'] value pos) ρ (l₃.set k.toNat d) .next := by
  refine ⟨?_⟩
  intro A s g Q E RM hg gh hF S kk
  refine wpAny_Assign_Subscript (hv.run A s g _ _ RM hg gh hF S fun v g1 hp1 tk x S1 a1 => ?_) hs
  refine ho.run A _ g1 _ _ RM (hg.trans x.gg) x.gh (hF.stepP x) S1 fun ov g2 hp2 tk2 y S2 a2 => ?_
  refine hi.run A _ g2 _ _ RM ((hg.trans x.gg).trans y.gg) y.gh ((hF.stepP x).stepP y) S2 fun iv g3 hp3 tk3 z S3 a3 => ?_
  cases a2
  obtain ⟨t, rfl⟩ := Rd.int_inv a3
  obtain ⟨hn, vs, ht, hr⟩ := S3 a hp
  have hlen := hr.length
  have F3 := ((hF.stepP x).stepP y).stepP z
  refine setItem_plain ht.plain h0 hz (by rw [List.size_toArray]; omega) fun h' hl' hs' => ?_
  rw [setList] at hl'
  obtain ⟨o', e', q'⟩ := IsL.of hl'
  have st : Stp (isP C.p) g3 hp3 g3 h' := Stp.same z.gh hn hp hs' e'
  refine kk .next g3 h' _ (((x.trans' y).trans' z).trans' st).up (F3.stepP st) (fun b hb => ?_) trivial
  rw [hp] at hb; cases hb
  exact ⟨hn, _, IsL.of hl', hr.set _ ((a1.mono y.gg).mono z.gg)⟩

/-- append to the list that may change -/
theorem append_J {a : Addr} {d : PyData} (hp : C.p = some a) (hz : l.length ≤ 100000) : CJ C n (.builtin "list.append") [.val (.ref a), .dat d] l (.dat .none) (l ++ [d]) := by
  intro vs
  refine ⟨?_⟩
  intro A s g Q E RM hg gh hF S k
  obtain ⟨v, u, rfl, rfl, h2⟩ := hF.two
  obtain ⟨hn, vs, ht, hr⟩ := S a hp
  have hlen := hr.length
  refine wpAny_list_append_plain ht.plain (fun h' hl' hs' => ?_) (by rw [List.size_toArray, sizeLine_eq]; omega)
  rw [show (List.toArray vs).push u = List.toArray (vs ++ [u]) by simp] at hl'
  obtain ⟨o', e', q'⟩ := IsL.of hl'
  have st : Stp (isP C.p) g s.heap g h' := Stp.same gh hn hp hs' e'
  refine k _ g h' _ st (fun b hb => ?_) Rd.none
  rw [hp] at hb; cases hb
  refine ⟨hn, vs ++ [u], IsL.of hl', hr.append (.cons h2 .nil)⟩

theorem CJ.int {i : Int} : CJ C n (.type "int") [.dat (.int i)] l (.dat (.int i)) l := by
  intro vs
  refine ⟨?_⟩
  intro A s g Q E RM hg gh hF S k
  obtain ⟨v, rfl, h⟩ := hF.one
  obtain ⟨t, rfl⟩ := Rd.int_inv h
  exact call_int_int (k _ g s.heap s.toks (Stp.refl gh) S Rd.int)
theorem CJ.intb {b : Bool} : CJ C n (.type "int") [.dat (.bool b)] l (.dat (.int (if b then 1 else 0))) l := by
  intro vs
  refine ⟨?_⟩
  intro A s g Q E RM hg gh hF S k
  obtain ⟨v, rfl, h⟩ := hF.one
  obtain rfl := Rd.bool_inv h
  exact call_int_bool (k _ g s.heap _ (Stp.refl gh) S Rd.int)
theorem CJ.max {i j : Int} : CJ C n (.builtin "max") [.dat (.int i), .dat (.int j)] l (.dat (.int (if j > i then j else i))) l := by
  intro vs
  refine ⟨?_⟩
  intro A s g Q E RM hg gh hF S k
  obtain ⟨v, u, rfl, h1, h2⟩ := hF.two
  obtain ⟨t, rfl⟩ := Rd.int_inv h1
  obtain ⟨t', rfl⟩ := Rd.int_inv h2
  refine max_two_ints RM.1 fun h' tk hk => ?_
  have st : Stp (fun _ => False) g s.heap g h' := Stp.keeps gh hk
  refine k _ g h' tk (st.weak fun _ _ _ q => q.elim) (S.step st fun _ _ q => q) ?_
  by_cases q : j > i
  · rw [if_pos q, if_pos q]; exact Rd.int
  · rw [if_neg q, if_neg q]; exact Rd.int
theorem CJ.min {i j : Int} : CJ C n (.builtin "min") [.dat (.int i), .dat (.int j)] l (.dat (.int (if j < i then j else i))) l := by
  intro vs
  refine ⟨?_⟩
  intro A s g Q E RM hg gh hF S k
  obtain ⟨v, u, rfl, h1, h2⟩ := hF.two
  obtain ⟨t, rfl⟩ := Rd.int_inv h1
  obtain ⟨t', rfl⟩ := Rd.int_inv h2
  refine min_two_ints RM.1 fun h' tk hk => ?_
  have st : Stp (fun _ => False) g s.heap g h' := Stp.keeps gh hk
  refine k _ g h' tk (st.weak fun _ _ _ q => q.elim) (S.step st fun _ _ q => q) ?_
  by_cases q : j < i
  · rw [if_pos q, if_pos q]; exact Rd.int
  · rw [if_neg q, if_neg q]; exact Rd.int
theorem CJ.lenL {ds : List PyData} (hz : ds.length ≤ 1000000000) : CJ C n (.builtin "len") [.dat (.list ds)] l (.dat (.int ds.length)) l := by
  intro vs
  refine ⟨?_⟩
  intro A s g Q E RM hg gh hF S k
  obtain ⟨v, rfl, h⟩ := hF.one
  obtain ⟨a, vs, rfl, ht, hr⟩ := Rd.isLst h gh
  have hl := hr.length
  refine Calls.call_len_list ht (by rw [List.size_toArray]; omega) ?_
  rw [List.size_toArray, hl]
  exact k _ g s.heap _ (Stp.refl gh) S Rd.int
theorem CJ.lenT {ds : List PyData} (hz : ds.length ≤ 1000000000) : CJ C n (.builtin "len") [.dat (.tuple ds)] l (.dat (.int ds.length)) l := by
  intro vs
  refine ⟨?_⟩
  intro A s g Q E RM hg gh hF S k
  obtain ⟨v, rfl, h⟩ := hF.one
  obtain ⟨a, vs, rfl, ht, hr⟩ := Rd.isTup h gh
  have hl := hr.length
  refine PyProof.Rows.len_tuple ht (by rw [List.size_toArray]; omega) ?_
  rw [List.size_toArray, hl]
  exact k _ g s.heap _ (Stp.refl gh) S Rd.int
theorem CJ.tupL {ds : List PyData} (hz : ds.length ≤ 1000) : CJ C n (.type "tuple") [.dat (.list ds)] l (.dat (.tuple ds)) l := by
  intro vs
  refine ⟨?_⟩
  intro A s g Q E RM hg gh hF S k
  obtain ⟨v, rfl, h⟩ := hF.one
  obtain ⟨a, vs, rfl, ht, hr⟩ := Rd.isLst h gh
  have hl := hr.length
  refine call_tuple_list ht (fun h' hk => ?_) (by rw [List.size_toArray, sizeLine_eq]; omega)
  have st : Stp (fun _ => False) g s.heap g h' := Stp.keeps gh hk
  obtain ⟨g2, y, e⟩ := Stp.alloc (W := fun _ => False) st.gh (tupO vs) rfl
  exact k _ g2 _ _ ((st.trans' y).weak fun _ _ _ f => f.elim) ((S.step st fun _ _ f => f).step y fun _ _ f => f.elim) (Rd.tup e (hr.mono y.gg))

theorem EJ.to {e : Expr} {a a' : AV} (h : EJ C n env ρ l e a l₁) (ha : a = a') (hl : l₁ = l₂) : EJ C n env ρ l e a' l₂ := by subst ha hl; exact h
theorem BJ.to {e : Expr} {a a' : Bool} (h : BJ C n env ρ l e a l₁) (ha : a = a') : BJ C n env ρ l e a' l₁ := by subst ha; exact h
theorem EJ.tail2 {value : Expr} {k : Nat} {kp sp pos : Pos} {ds : List PyData} (h : EJ C n env ρ l value (.dat (.tuple ds)) l') (hi : 2 ≤ ds.length) (hz : ds.length ≤ 100)
    (hg' : ∀ o r : Value, letTemporaryGo value o r = Pure.pure ()) :
    EJ C n env ρ l (.Subscript value (.Slice (some (.Constant (.int 2) k kp)) none none sp) pos) (.dat (.tuple (ds.drop 2))) l' := EJ.tail (i := 2) h (by decide) hi hz hg'
theorem SJ.ite_t {test : Expr} {body orelse : List Stmt} {pos : Pos} (h1 : BJ C n env ρ l test true l₁) (h2 : BsJ C n env ρ l₁ body ρ₂ l₂ fl) : SJ C n env ρ l (.If test body orelse pos) ρ₂ l₂ fl := SJ.ite h1 h2
theorem SJ.ite_f {test : Expr} {body orelse : List Stmt} {pos : Pos} (h1 : BJ C n env ρ l test false l₁) (h2 : BsJ C n env ρ l₁ orelse ρ₂ l₂ fl) : SJ C n env ρ l (.If test body orelse pos) ρ₂ l₂ fl := SJ.ite h1 h2
theorem EJ.ite_t {test body orelse : Expr} {pos : Pos} {r : AV} (h1 : BJ C n env ρ l test true l₁) (h2 : EJ C n env ρ l₁ body r l₂) : EJ C n env ρ l (.IfExp test body orelse pos) r l₂ := EJ.ite h1 h2
theorem EJ.ite_f {test body orelse : Expr} {pos : Pos} {r : AV} (h1 : BJ C n env ρ l test false l₁) (h2 : EJ C n env ρ l₁ orelse r l₂) : EJ C n env ρ l (.IfExp test body orelse pos) r l₂ := EJ.ite h1 h2
end
end Mine
namespace Mine

/-- an item that an iterator hands out: a value, or a tuple that is let go when it is unpacked -/
inductive IV where
  | av (a : AV)
  | tup (as : List AV)
def ItemR (g h : Heap) (v : Value) : IV → Prop
  | .av a => AvR g v a
  | .tup as => ∃ T vs, v = .ref T ∧ h.IsTuple T (List.toArray vs) ∧ AvRs g vs as

/-- a store into a target -/
structure AsJ (C : Cx) (n : Nat) (env : Env) (target : Expr) (iv : IV) (ρ ρ' : Rho) : Prop where
  run : ∀ (A : Around) (s : Shared) (g : Heap) (l : List PyData) (v : Value) (Q : Unit → Shared → Prop) (E : Value → Shared → Prop), Room n A → Le C.h₀ g → Le g s.heap → FR g C.p env ρ s.heap → ST g C.p l s.heap → ItemR g s.heap v iv →
    (∀ h' tk, Stp (WL C.p env) g s.heap g h' → FR g C.p env ρ' h' → ST g C.p l h' → Q () { s with heap := h', toks := tk }) → wpAny (model C.prog C.w) A (PySem.assign target env v) Q E s

structure MW (C : Cx) (A : Around) (target : Expr) (I : Addr) (fp wr : List Addr) (ivs : List IV) (P Md : Nat → Value → Heap → Prop) (St : Nat → Heap → Prop) (g : Heap) : Prop where
  kt : KTurns C.prog C.w A target I fp wr ivs.length P Md St
  self : ∀ i (s : Shared) (Q : Value → Shared → Prop) (E : Value → Shared → Prop), St i s.heap → Q (.ref I) s → wpAny (model C.prog C.w) A (pyIter (.ref I)) Q E s
  ex : ∀ i h, St i h → ∀ b ∈ wr, ∃ o, h.get? b = some o
  fpg : ∀ b ∈ fp, b ∈ wr ∨ ∃ o, g.get? b = some o
  item : ∀ i v g' h, Le g g' → Le g' h → P i v h → ∃ iv, ivs[i]? = some iv ∧ ItemR g' h v iv

/-- the iterable is evaluated, its iterator hands out ivs -/
structure IterJ (C : Cx) (n : Nat) (env : Env) (ρ : Rho) (l : List PyData) (iter target : Expr) (ivs : List IV) (l' : List PyData) : Prop where
  run : ∀ (A : Around) (s : Shared) (g : Heap) (Q : Value → Shared → Prop) (E : Value → Shared → Prop), Room n A → Le C.h₀ g → Le g s.heap → FR g C.p env ρ s.heap → ST g C.p l s.heap →
    (∀ I fp wr P Md St g' h' tk, MW C A target I fp wr ivs P Md St g' → Stp (isP C.p) g s.heap g' h' → ST g' C.p l' h' → (∀ b ∈ wr, s.heap.get? b = none ∧ g'.get? b = none) → St 0 h' → Q (.ref I) { s with heap := h', toks := tk }) →
    wpAny (model C.prog C.w) A (eval iter env) (fun x s₁ => wpAny (model C.prog C.w) A (pyIter x) Q E s₁) E s

inductive Loop (stp : IV → Rho → List PyData → AFl → Rho → List PyData → Prop) : List IV → Rho → List PyData → AFl → Rho → List PyData → Prop
  | nil {ρ : Rho} {l : List PyData} : Loop stp [] ρ l .next ρ l
  | next {iv : IV} {ivs : List IV} {ρ ρ₁ ρ₂ : Rho} {l l₁ l₂ : List PyData} {fl : AFl} : stp iv ρ l .next ρ₁ l₁ → Loop stp ivs ρ₁ l₁ fl ρ₂ l₂ → Loop stp (iv :: ivs) ρ l fl ρ₂ l₂
  | ret {iv : IV} {ivs : List IV} {ρ ρ₁ : Rho} {l l₁ : List PyData} {a : AV} : stp iv ρ l (.ret a) ρ₁ l₁ → Loop stp (iv :: ivs) ρ l (.ret a) ρ₁ l₁

def FStep (C : Cx) (n : Nat) (env : Env) (target : Expr) (body : List Stmt) (iv : IV) (ρ : Rho) (l : List PyData) (fl : AFl) (ρ' : Rho) (l' : List PyData) : Prop :=
  ∃ ρ₁, AsJ C n env target iv ρ ρ₁ ∧ BsJ C n env ρ₁ l body ρ' l' fl

section
variable {C : Cx} {n : Nat} {env : Env} {ρ ρ' ρ₁ ρ₂ : Rho} {l l' l₁ l₂ l₃ : List PyData} {fl : AFl}

theorem for_core {target : Expr} {body : List Stmt} {ivs : List IV} (hl : Loop (FStep C n env target body) ivs ρ l₁ fl ρ₂ l₂) {A : Around} {s : Shared} {g g' h' : Heap} {tk : Nat} {I : Addr} {fp wr : List Addr} {P Md : Nat → Value → Heap → Prop} {St : Nat → Heap → Prop} {R : Result → Shared → Prop}
    (RM : Room n A) (hg : Le C.h₀ g) (hF : FR g C.p env ρ' s.heap) (S : ST g C.p l s.heap) (M : MW C A target I fp wr ivs P Md St g') (x : Stp (WL C.p env) g s.heap g' h') (F1 : FR g' C.p env ρ h') (S1 : ST g' C.p l₁ h')
    (hwr : ∀ b ∈ wr, s.heap.get? b = none ∧ g'.get? b = none) (st : St 0 h')
    (k : ∀ f g₃ h₃ tk₃, Stp (WL C.p env) g s.heap g₃ h₃ → FR g₃ C.p env ρ₂ h₃ → ST g₃ C.p l₂ h₃ → FlR g₃ f fl → R (.ok f) { s with heap := h₃, toks := tk₃ }) :
    codeAny (model C.prog C.w) A (.forLoop target (.ref I) body [] env) R { s with heap := h', toks := tk } := by
  have pw : ∀ a, C.p = some a → a ∉ wr := fun a e q => by
    obtain ⟨_, _, ⟨_, e', _⟩, _⟩ := S a e
    rw [(hwr a q).1] at e'; cases e'
  have Lw : env.locals ∉ wr := fun q => by obtain ⟨o, e⟩ := hF.has; rw [(hwr _ q).1] at e; cases e
  have cw : ∀ y c, env.cells.lookup y = some c → c ∉ wr := fun y c e q => by
    obtain ⟨_, _, _, o, _, e', _⟩ := hF.cg y c e
    rw [(hwr c q).1] at e'; cases e'
  have wrW : ∀ b ∈ wr, ¬ WL C.p env b := fun b hb q => by
    rcases q with q | q | ⟨_, y, q⟩
    · exact pw b q hb
    · exact Lw (q ▸ hb)
    · exact cw y b q hb
  refine codeAny_forLoop_any
    (fun j s' => ∃ hh tk gi ρi li i, s' = { s with heap := hh, toks := tk } ∧ Stp (fun b => WL C.p env b ∨ b ∈ wr) g' h' gi hh ∧ FR gi C.p env ρi hh ∧ ST gi C.p li hh ∧ St i hh ∧ i ≤ ivs.length ∧ j = ivs.length + 1 - i ∧ Loop (FStep C n env target body) (ivs.drop i) ρi li fl ρ₂ l₂)
    ?_ (ivs.length + 1) ⟨h', tk, g', ρ, l₁, 0, rfl, Stp.refl x.gh, F1, S1, st, Nat.zero_le _, rfl, hl⟩
  rintro j s' ⟨hh, tk, gi, ρi, li, i, rfl, y, Fi, Si, sti, hi, rfl, hli⟩
  have hgi : Le C.h₀ gi := (hg.trans x.gg).trans y.gg
  have gw : ∀ b ∈ wr, gi.get? b = none := fun b hb => by obtain ⟨o, e⟩ := M.ex _ _ st b hb; exact y.new b o e (hwr b hb).2
  have fin : ∀ (ρ₂ : Rho) (l₂ : List PyData) (g₃ h₃ : Heap), Stp (fun b => WL C.p env b ∨ b ∈ wr) g' h' g₃ h₃ → Stp (WL C.p env) g s.heap g₃ h₃ := fun _ _ g₃ h₃ z =>
    x.trans z (fun _ _ _ q => q) fun b o e q => q.elim id fun q => by rw [(hwr b q).1] at e; cases e
  by_cases hlt : i < ivs.length
  · refine M.kt.item i _ _ _ hlt sti fun v ha tka hMd ka => ?_
    refine M.kt.go i v _ _ _ hMd fun hb hP stb kb => ?_
    have kab : ∀ b o, b ∉ wr → hh.get? b = some o → hb.get? b = some o := fun b o q e => kb b o q (ka b o q e)
    have gb : Le gi hb := fun b o e => kab b o (fun q => by rw [gw b q] at e; cases e) (y.gh b o e)
    have z : Stp (fun b => b ∈ wr) gi hh gi hb := ⟨Le.rfl, gb, fun b o q e => kab b o q e, fun _ _ _ e => e, fun b o e => by
      by_cases q : b ∈ wr
      · exact M.ex _ _ stb b q
      · exact ⟨o, kab b o q e⟩⟩
    obtain ⟨iv, hiv, hR⟩ := M.item i v gi hb y.gg gb hP
    have Fb : FR gi C.p env ρi hb := Fi.step z Lw cw
    have Sb : ST gi C.p li hb := Si.step z pw
    have hdrop : ivs.drop i = iv :: ivs.drop (i + 1) := by
      obtain ⟨hl', e⟩ := List.getElem?_eq_some_iff.mp hiv
      rw [List.drop_eq_getElem_cons hl', e]
    rw [hdrop] at hli
    have turn : ∀ (fl' : AFl) (ρ' : Rho) (l' : List PyData) (Qf : Flow → Shared → Prop) (E₁ E₂ : Value → Shared → Prop), FStep C n env target body iv ρi li fl' ρ' l' →
        (∀ f g₃ h₃ tk₃, Stp (fun b => WL C.p env b ∨ b ∈ wr) g' h' g₃ h₃ → FR g₃ C.p env ρ' h₃ → ST g₃ C.p l' h₃ → St (i + 1) h₃ → FlR g₃ f fl' → Qf f { s with heap := h₃, toks := tk₃ }) →
        wpAny (model C.prog C.w) A (PySem.assign target env v) (fun _ s₂ => wpAny (model C.prog C.w) A (execs body env) Qf E₁ s₂) E₂ { s with heap := hb, toks := tka } := by
      rintro fl' ρ' l' Qf E₁ E₂ ⟨ρ₁, hA, hB⟩ kk
      refine hA.run A { s with heap := hb, toks := tka } gi li v _ _ RM hgi gb Fb Sb hR fun hc tkc zc Fc Sc => ?_
      refine hB.run A _ gi _ _ RM hgi zc.gh Fc Sc fun f gd hd tkd zd Fd Sd hf => ?_
      have stc : St (i + 1) hc := M.kt.frame _ _ _ stb fun b hbf o e => by
        rcases M.fpg b hbf with q | ⟨o', q⟩
        · exact zc.keep b o (wrW b q) e
        · have e1 := gb b o' (y.gg b o' q)
          rw [e] at e1; cases e1
          exact zc.gh b o (y.gg b o q)
      have std : St (i + 1) hd := M.kt.frame _ _ _ stc fun b hbf o e => by
        rcases M.fpg b hbf with q | ⟨o', q⟩
        · exact zd.keep b o (wrW b q) e
        · have e1 := zc.gh b o' (y.gg b o' q)
          rw [e] at e1; cases e1
          exact zd.gh b o (zd.gg b o (y.gg b o q))
      have yy : Stp (fun b => WL C.p env b ∨ b ∈ wr) g' h' gd hd := ((y.trans z (fun _ _ _ q => q) fun _ _ _ q => .inr q).trans zc (fun _ _ _ q => q) fun _ _ _ q => .inl q).trans zd (fun _ _ _ q => q) fun _ _ _ q => .inl q
      exact kk f gd hd tkd yy Fd Sd std hf
    cases hli with
    | next h1 h2 =>
      refine turn _ _ _ _ _ _ h1 fun f g₃ h₃ tk₃ yy F3 S3 st3 hf => ?_
      cases f with
      | next => exact ⟨ivs.length + 1 - (i + 1), by omega, h₃, tk₃, g₃, _, _, i + 1, rfl, yy, F3, S3, st3, hlt, rfl, h2⟩
      | _ => exact hf.elim
    | ret h1 =>
      refine turn _ _ _ _ _ _ h1 fun f g₃ h₃ tk₃ yy F3 S3 st3 hf => ?_
      cases f with
      | ret v => exact k (.ret v) g₃ h₃ tk₃ (fin ρ₂ l₂ _ _ yy) F3 S3 hf
      | _ => exact hf.elim
  · have hin : i = ivs.length := by omega
    subst hin
    rw [List.drop_length] at hli
    cases hli
    refine M.kt.done _ _ _ sti fun hz tkz kz => wpAny_execs_nil ?_
    have zz := fin ρ₂ l₂ _ _ y
    have gz : Le gi hz := fun b o e => kz b o (fun q => by rw [gw b q] at e; cases e) (y.gh b o e)
    have nw : ∀ b o, s.heap.get? b = some o → b ∉ wr := fun b o e q => by rw [(hwr b q).1] at e; cases e
    have stz : Stp (WL C.p env) g s.heap gi hz := ⟨zz.gg, gz, fun b o q e => kz b o (nw b o e) (zz.keep b o q e), zz.new, fun b o e => by obtain ⟨o', e'⟩ := zz.ex b o e; exact ⟨o', kz b o' (nw b o e) e'⟩⟩
    have Fz : FR gi C.p env ρ₂ hz := ⟨let ⟨m, hn, q⟩ := Fi.ns; ⟨m, hn.at' fun o e => kz _ o Lw e, q⟩, fun y a e kk => let ⟨c, o, v, e1, e2, e3, e4⟩ := Fi.cell y a e kk; ⟨c, o, v, e1, kz _ _ (cw y c e1) e2, e3, e4⟩, Fi.lg, Fi.lp,
      fun y c e => let ⟨a1, a2, a3, o, v, a4, a5⟩ := Fi.cg y c e; ⟨a1, a2, a3, o, v, kz _ _ (cw y c e) a4, a5⟩, Fi.cu⟩
    have Sz : ST gi C.p l₂ hz := fun a e => let ⟨a1, vs, ⟨o, a2, q⟩, a3⟩ := Si a e; ⟨a1, vs, ⟨o, kz _ _ (pw a e) a2, q⟩, a3⟩
    exact k .next gi hz tkz stz Fz Sz trivial
theorem SJ.for_ {target iter : Expr} {body : List Stmt} {pos : Pos} {ivs : List IV} (hit : IterJ C n env ρ l iter target ivs l₁) (hl : Loop (FStep C n env target body) ivs ρ l₁ fl ρ₂ l₂) (hs : ∀ x, foldedSetIterable iter env x = Pure.pure x) :
    SJ C n env ρ l (.For target iter body [] pos) ρ₂ l₂ fl := by
  refine ⟨?_⟩
  intro A s g Q E RM hg gh hF S k
  refine wpAny_For (hit.run A s g _ _ RM hg gh hF S fun I fp wr P Md St g' h' tk M x S1 hwr st => ?_) hs
  exact for_core hl RM hg hF S M x.up (hF.stepP x) S1 hwr st fun f g₃ h₃ tk₃ T F3 S3 hf => k f g₃ h₃ tk₃ T F3 S3 hf
end
end Mine
namespace Mine
section
variable {C : Cx} {n : Nat} {env : Env} {ρ ρ' ρ₁ ρ₂ : Rho} {l l' l₁ l₂ l₃ : List PyData} {fl : AFl}

theorem AvR.upto {g h : Heap} {v : Value} {a : AV} (x : AvR g v a) : ItemR g h v (.av a) := x
theorem AsJ.name {x : Str} {px : Pos} {a : AV} (hx : StoreOk env x) : AsJ C n env (.Name x px) (.av a) ρ ((x, a) :: ρ) := by
  refine ⟨?_⟩
  intro A s g l v Q E RM hg gh hF S hR k
  exact wpAny_assign_Name (store_J hx gh hF S hR k)
theorem AsJ.pair {t₁ t₂ : Expr} {k : Nat} {pos : Pos} {a b : AV} (h1 : AsJ C n env t₁ (.av a) ρ ρ₁) (h2 : AsJ C n env t₂ (.av b) ρ₁ ρ₂) (he : assignEach [t₁, t₂] env = [(false, assign t₁ env), (false, assign t₂ env)]) :
    AsJ C n env (.Tuple [t₁, t₂] k pos) (.tup [a, b]) ρ ρ₂ := by
  refine ⟨?_⟩
  intro A s g l v Q E RM hg gh hF S hR kk
  obtain ⟨T, vs, rfl, hT, hA⟩ := hR
  obtain ⟨u₁, u₂, rfl, r1, r2⟩ := hA.two
  refine wpAny_assign_Tuple RM.1 hT (by rw [he]; rfl) (by rw [he]; rfl) fun h' hk => ?_
  have k' : Le s.heap h' := fun b o e => hk b o (Nat.ne_of_lt (Heap.lt_size e)) e
  have st0 : Stp (fun _ => False) g s.heap g h' := Stp.keeps gh k'
  rw [he]
  show wpAny _ A (do holding [u₂] (assign t₁ env u₁); holding [] (assign t₂ env u₂); Pure.pure ()) Q E _
  refine wpAny_bind (wpAny_holding (h1.run A { s with heap := h' } g l u₁ _ _ RM hg st0.gh (hF.step st0 (fun q => q) fun _ _ _ q => q) (S.step st0 fun _ _ q => q) r1 fun ha tka x F1 S1 => ?_))
  refine wpAny_bind (wpAny_holding (h2.run A _ g l u₂ _ _ RM hg x.gh F1 S1 r2 fun hb tkb y F2 S2 => ?_))
  exact wpAny_pure (kk hb tkb (((st0.weak fun _ _ _ q => q.elim).trans' x).trans' y) F2 S2)
theorem AsJ.pairD {t₁ t₂ : Expr} {k : Nat} {pos : Pos} {a b : PyData} (h : AsJ C n env (.Tuple [t₁, t₂] k pos) (.tup [.dat a, .dat b]) ρ ρ₂) : AsJ C n env (.Tuple [t₁, t₂] k pos) (.av (.dat (.tuple [a, b]))) ρ ρ₂ := by
  refine ⟨?_⟩
  intro A s g l v Q E RM hg gh hF S hR kk
  obtain ⟨T, vs, rfl, hT, hr⟩ := Rd.isTup hR gh
  obtain ⟨u₁, vs', rfl, r1, hr⟩ := hr.uncons
  obtain ⟨u₂, vs'', rfl, r2, hr⟩ := hr.uncons
  obtain rfl := hr.of_nil
  exact h.run A s g l _ Q E RM hg gh hF S ⟨T, _, rfl, hT, r1, r2, trivial⟩ kk

theorem RdAll.get' {g : Heap} : ∀ {vs : List Value} {ds : List PyData} {i : Nat} {v : Value}, RdAll g vs ds → vs[i]? = some v → ∃ d, ds[i]? = some d ∧ Rd g v d
  | vs, [], _, _, x, e => by rw [x.of_nil] at e; cases e
  | vs, d :: ds, i, v', x, e => by
    obtain ⟨v, vs', rfl, a, b⟩ := x.uncons
    cases i with
    | zero => exact ⟨d, rfl, by cases e; exact a⟩
    | succ i => exact RdAll.get' (i := i) b e

abbrev ivD (d : PyData) : IV := .av (.dat d)
theorem IterJ.list {iter target : Expr} {ds : List PyData} (h : EJ C n env ρ l iter (.dat (.list ds)) l') : IterJ C n env ρ l iter target (ds.map ivD) l' := by
  refine ⟨?_⟩
  intro A s g Q E RM hg gh hF S k
  refine h.run A s g _ _ RM hg gh hF S fun v g1 h1 tk x S1 hr => ?_
  obtain ⟨a, o, vs, m, rfl, e2, e3, e4, e5⟩ := Rd.lst_inv hr
  have hl : h1.IsList a (List.toArray vs) := ⟨o, x.gh _ _ e2, e3, m, e4⟩
  have hne : a ≠ h1.objs.size := Nat.ne_of_lt (Heap.lt_size (x.gh _ _ e2))
  refine wpAny_pyIter_list hl ?_
  have y : Stp (fun _ => False) g1 h1 g1 (h1.push { cls := .type "list_iterator", data := .fields #[.ref a, .int 0 0] }) := Stp.push x.gh _
  have W := Walks.list (prog := C.prog) (w := C.w) RM.1 h1.objs.size a hne (List.toArray vs)
  have hn : (List.toArray vs).size = (ds.map ivD).length := by rw [List.size_toArray, List.length_map, e5.length]
  have self := W.self
  rw [hn] at W
  refine k h1.objs.size _ _ _ _ _ g1 _ tk ⟨KTurns.ofWalks W fun i v s Q E st q => letGo_listiter st.1 q, self, fun i h st b hb => ?_, fun b hb => ?_, fun i v g' h kg kh hP => ?_⟩ (x.trans' (y.weak fun _ _ _ q => q.elim)) (S1.step y fun _ _ q => q) (fun b hb => ?_) ⟨⟨_, Heap.get?_push_size _ rfl, rfl, rfl⟩, hl.push _⟩
  · rw [List.mem_singleton.mp hb]; obtain ⟨o, e, _⟩ := st.1; exact ⟨o, e⟩
  · rcases List.mem_cons.mp hb with rfl | hb
    · exact .inl (List.mem_singleton.mpr rfl)
    · rw [List.mem_singleton.mp hb]; exact .inr ⟨o, e2⟩
  · have hP' : vs[i]? = some v := by simpa using hP
    obtain ⟨d, hd, hr'⟩ := e5.get' hP'
    exact ⟨ivD d, by rw [List.getElem?_map, hd]; rfl, hr'.mono kg⟩
  · rw [List.mem_singleton.mp hb]
    have hz := fresh_none (h := h1) (Nat.le_refl _)
    refine ⟨?_, none_of_le x.gh hz⟩
    cases q : s.heap.get? h1.objs.size with
    | none => rfl
    | some o' => obtain ⟨o2, e⟩ := x.ex _ _ q; rw [hz] at e; cases e
theorem IterJ.tuple {iter target : Expr} {ds : List PyData} (h : EJ C n env ρ l iter (.dat (.tuple ds)) l') : IterJ C n env ρ l iter target (ds.map ivD) l' := by
  refine ⟨?_⟩
  intro A s g Q E RM hg gh hF S k
  refine h.run A s g _ _ RM hg gh hF S fun v g1 h1 tk x S1 hr => ?_
  obtain ⟨a, o, vs, m, rfl, e2, e3, e4, e5⟩ := Rd.tup_inv hr
  have hl : h1.IsTuple a (List.toArray vs) := ⟨o, x.gh _ _ e2, e3, m, e4⟩
  have hne : a ≠ h1.objs.size := Nat.ne_of_lt (Heap.lt_size (x.gh _ _ e2))
  refine wpAny_pyIter_tuple hl ?_
  have y : Stp (fun _ => False) g1 h1 g1 (h1.push { cls := .type "tuple_iterator", data := .fields #[.ref a, .int 0 0] }) := Stp.push x.gh _
  have W := Walks.tuple (prog := C.prog) (w := C.w) RM.1 h1.objs.size a hne (List.toArray vs)
  have hn : (List.toArray vs).size = (ds.map ivD).length := by rw [List.size_toArray, List.length_map, e5.length]
  have self := W.self
  rw [hn] at W
  refine k h1.objs.size _ _ _ _ _ g1 _ tk ⟨KTurns.ofWalks W fun i v s Q E st q => letGo_tupleiter st.1 q, self, fun i h st b hb => ?_, fun b hb => ?_, fun i v g' h kg kh hP => ?_⟩ (x.trans' (y.weak fun _ _ _ q => q.elim)) (S1.step y fun _ _ q => q) (fun b hb => ?_) ⟨⟨_, Heap.get?_push_size _ rfl, rfl, rfl⟩, hl.push _⟩
  · rw [List.mem_singleton.mp hb]; obtain ⟨o, e, _⟩ := st.1; exact ⟨o, e⟩
  · rcases List.mem_cons.mp hb with rfl | hb
    · exact .inl (List.mem_singleton.mpr rfl)
    · rw [List.mem_singleton.mp hb]; exact .inr ⟨o, e2⟩
  · have hP' : vs[i]? = some v := by simpa using hP
    obtain ⟨d, hd, hr'⟩ := e5.get' hP'
    exact ⟨ivD d, by rw [List.getElem?_map, hd]; rfl, hr'.mono kg⟩
  · rw [List.mem_singleton.mp hb]
    have hz := fresh_none (h := h1) (Nat.le_refl _)
    refine ⟨?_, none_of_le x.gh hz⟩
    cases q : s.heap.get? h1.objs.size with
    | none => rfl
    | some o' => obtain ⟨o2, e⟩ := x.ex _ _ q; rw [hz] at e; cases e

theorem KTurns.cast {prog : Program} {w : World} {A : Around} {target : Expr} {I : Addr} {fp wr : List Addr} {n m : Nat} {P Md : Nat → Value → Heap → Prop} {St : Nat → Heap → Prop} (h : n = m) (k : KTurns prog w A target I fp wr n P Md St) : KTurns prog w A target I fp wr m P Md St := h ▸ k
/-- range(k) -/
theorem IterJ.range {func e target : Expr} {pos : Pos} {k : Int} {m : Nat} (hf : EJ C n env ρ l func (.val (.type "range")) l₁) (ha : EsJ C n env ρ l₁ [e] [.dat (.int k)] l₂) (hk : k = m) (hm : m ≤ 1000) (hgo : ∀ it v, letOwnedTupleGo target it v = Pure.pure ())
    (he : eval (.Call func [e] [] pos) env = (do callWith pos (← eval func env) [] (backTo pos (starEach [e] env)) (backToKw pos (keywordEach [] env))))
    (hst : starEach [e] env = (false, eval e env) :: starEach [] env) :
    IterJ C n env ρ l (.Call func [e] [] pos) target ((List.range m).map fun i : Nat => ivD (.int (i : Int))) l₂ := by
  subst hk
  refine ⟨?_⟩
  intro A s g Q E RM hg gh hF S k
  refine Call_ (hf.run A s g _ _ RM hg gh hF S fun v g1 h1 tk x S1 hv => ?_) he
  cases hv
  refine PyProof.Rows.callWith_type1 ((ha.run pos).run A _ g1 _ _ RM (hg.trans x.gg) x.gh (hF.stepP x) S1 fun vs g2 h2 tk2 y S2 a2 => ?_) hst rfl
  obtain ⟨v, rfl, hv⟩ := a2.one
  obtain ⟨t, rfl⟩ := Rd.int_inv hv
  refine call_range_1 ?_
  have hr := IsRange.new h2 0 m 1 tk2 t (tk2 + 1)
  have z : Stp (fun _ => False) g2 h2 g2 (h2.push { cls := .type "range", data := .fields #[.int 0 tk2, .int m t, .int 1 (tk2 + 1)] }) := Stp.push y.gh _
  have hsm : Builtin.Range.small 0 (m : Int) 1 = true := small_one (by omega) (by omega) (by omega) (by omega)
  refine wpAny_pyIter_range hr hsm ?_
  generalize h2.push { cls := .type "range", data := .fields #[.int 0 tk2, .int m t, .int 1 (tk2 + 1)] } = h3 at z hr
  have u : Stp (fun _ => False) g2 h3 g2 (h3.push { cls := .type "range_iterator", data := .fields #[rawInt 0, rawInt (Builtin.Range.rangeSize 0 m 1), rawInt 1] }) := Stp.push z.gh _
  have W := Walks.range (prog := C.prog) (w := C.w) RM.1 h3.objs.size 0 1 m
  have hn : m = ((List.range m).map fun i : Nat => ivD (.int (i : Int))).length := by rw [List.length_map, List.length_range]
  have self := W.self
  have hsz : Builtin.Range.rangeSize 0 (m : Int) 1 = (m : Int) := by rw [rangeSize_one]; split <;> omega
  have kt := KTurns.ofWalks (target := target) W.bound fun i v s Q E st q => by rw [hgo]; exact wpAny_pure q
  have kt' := KTurns.cast hn kt
  refine k h3.objs.size _ _ _ _ _ g2 _ _ ⟨kt', self, fun i h st b hb => ?_, fun b hb => .inl hb, fun i v g' h kg kh hP => ?_⟩ (((x.trans' y).trans' (z.weak fun _ _ _ q => q.elim)).trans' (u.weak fun _ _ _ q => q.elim)) ((S2.step z fun _ _ q => q).step u fun _ _ q => q) (fun b hb => ?_) ?_
  · rw [List.mem_singleton.mp hb]; exact ⟨_, st⟩
  · obtain ⟨hi, t', rfl⟩ := hP
    refine ⟨ivD (.int (i : Int)), by rw [List.getElem?_map, List.getElem?_range hi]; rfl, ?_⟩
    show Rd g' _ _
    rw [show (0 : Int) + (i : Int) * 1 = ((i : Nat) : Int) by omega]
    exact Rd.int
  · rw [List.mem_singleton.mp hb]
    have hz := fresh_none (h := h3) (Nat.le_refl _)
    refine ⟨?_, none_of_le z.gh hz⟩
    cases q : s.heap.get? h3.objs.size with
    | none => rfl
    | some o' => obtain ⟨o2, e⟩ := ((x.trans' y).trans' (z.weak fun _ _ _ q => q.elim)).ex _ _ q; rw [hz] at e; cases e
  · show IsRangeIter _ _ _ _ _
    rw [hsz]; simpa using Heap.get?_push_size _ rfl
end
end Mine
namespace Mine
section
variable {prog : Program} {w : World} {A : Around} {E : Value → Shared → Prop} {s : Shared}
/-! enumerate over a tuple -/
open Builtin Builtin.Str
theorem nextOf_tuple_item {it t : Addr} {i : Nat} {items} {x : Value} {Q : Value → Shared → Prop} (hit : s.heap.IsTupleIter it t i)
    (ht : s.heap.IsTuple t items) (hx : items[i]? = some x)
    (hQ : ∀ h', h'.IsTupleIter it t (i + 1) → Heap.SameBut it s.heap h' → Q x { s with heap := h' }) :
    wpAny (model prog w) A (Builtin.SmallTypes.nextOf (.ref it)) Q E s := by
  obtain ⟨o, ho, hc, hd⟩ := id hit
  obtain ⟨ol, hol, _, nl, hdl⟩ := ht
  unfold Builtin.SmallTypes.nextOf
  refine wpAny_bind (wpAny_callSpecial?_slot (name := Str.ofString "__next__") hit.typeIs F.slot_tuple_iterator_next
    (wpAny_call_entry F.slot_tuple_iterator_next hit.typeIs F.entry_tuple_iterator_next ?_ (F.args_tuple_iterator_next_1 _)))
  show wpAny _ _ (field (.ref it) 0 >>= _) _ _ s
  refine wpAny_bind (wpAny_field ho hd (x := .ref t) rfl ?_)
  show wpAny _ _ (if (Value.ref t == Value.none) = true then _ else _) _ _ s
  rw [if_neg (show ¬ ((Value.ref t == Value.none) = true) from Bool.false_ne_true)]
  show wpAny _ _ (field (.ref it) 1 >>= _) _ _ s
  refine wpAny_bind (wpAny_field ho hd (x := .int i 0) rfl ?_)
  show wpAny _ _ (seqItems? (.ref t) >>= _) _ _ s
  refine wpAny_bind (wpAny_seqItems hol hdl ?_)
  simp only [Int.toNat_natCast, hx]
  refine wpAny_bind (wpAny_setField ho hd (by simp) (wpAny_pure ⟨x, rfl, wpAny_pure (hQ _ ?_ (Heap.SameBut.update ..))⟩))
  exact ⟨_, Heap.get?_update_self _ ho (Obj.isFreed_of_fields (Obj.data_mapFields hd _)), (Obj.cls_mapFields ..).trans hc, by
    rw [Obj.data_mapFields hd]; simp [rawInt]⟩
theorem nextOf_tuple_end {it t : Addr} {i : Nat} {items} {Q : Value → Shared → Prop} (hh : A.handled = none)
    (hit : s.heap.IsTupleIter it t i) (ht : s.heap.IsTuple t items) (hx : items[i]? = none)
    (hE : ∀ h' e, Heap.ExtBut it s.heap h' → (∃ o, h'.get? e = some o ∧ o.cls = .type "StopIteration") → E (.ref e) { s with heap := h' }) :
    wpAny (model prog w) A (Builtin.SmallTypes.nextOf (.ref it)) Q E s := by
  obtain ⟨o, ho, hc, hd⟩ := id hit
  obtain ⟨ol, hol, _, nl, hdl⟩ := ht
  unfold Builtin.SmallTypes.nextOf
  refine wpAny_bind (wpAny_callSpecial?_slot (name := Str.ofString "__next__") hit.typeIs F.slot_tuple_iterator_next
    (wpAny_call_entry F.slot_tuple_iterator_next hit.typeIs F.entry_tuple_iterator_next ?_ (F.args_tuple_iterator_next_1 _)))
  show wpAny _ _ (field (.ref it) 0 >>= _) _ _ s
  refine wpAny_bind (wpAny_field ho hd (x := .ref t) rfl ?_)
  show wpAny _ _ (if (Value.ref t == Value.none) = true then _ else _) _ _ s
  rw [if_neg (show ¬ ((Value.ref t == Value.none) = true) from Bool.false_ne_true)]
  show wpAny _ _ (field (.ref it) 1 >>= _) _ _ s
  refine wpAny_bind (wpAny_field ho hd (x := .int i 0) rfl ?_)
  show wpAny _ _ (seqItems? (.ref t) >>= _) _ _ s
  refine wpAny_bind (wpAny_seqItems hol hdl ?_)
  simp only [Int.toNat_natCast, hx]
  refine wpAny_bind (wpAny_rule (wpAny_bind (wpAny_setField ho hd (by simp) ?_)))
  show wpAny _ _ (newExc (.type "StopIteration") [] >>= _) _ _ _
  refine wpAny_bind ?_
  simp only [newExc, newTuple]
  refine wpAny_bind (wpAny_newObj_type ?_ (by size_fits))
  refine wpAny_bind (m := firstArgMember _ _) (wpAny_of_eq (a := Value.none) (by first | rfl | (simp only [firstArgMember]; rfl)) ?_)
  refine wpAny_newObj_type ?_ (by size_fits)
  simp only [raiseNew]
  refine wpAny_bind (wpAny_handled ?_)
  first | rw [show A.in1.handled = none from hh] | rw [hh]
  refine wpAny_bind (wpAny_pure (wpAny_throw ?_))
  exact hE _ _ (((Heap.SameBut.update ..).extBut.push _).push _) ⟨_, Heap.get?_push_size _ rfl, rfl⟩
theorem drawsTuple {prog : Program} {w : World} {A : Around} (hh : A.handled = none) (it l : Addr) (hne : l ≠ it) (items : Array Value) :
    Draws prog w A it [it, l] items.size (fun i v => items[i]? = some v) (fun i h => h.IsTupleIter it l i ∧ h.IsTuple l items) where
  live := fun _ _ st => let ⟨o, ho, _⟩ := st.1; ⟨o, ho⟩
  frame := fun _ _ _ st hk => ⟨st.1.at fun o e => hk it (by simp) o e, st.2.at fun o e => hk l (by simp) o e⟩
  item := fun i s Q E hi st hQ => by
    refine nextOf_tuple_item st.1 st.2 (x := items[i]) (by simp [hi]) fun h' hit' hs' => ?_
    exact hQ _ h' s.toks (by simp [hi]) ⟨hit', st.2.extBut hs'.extBut hne⟩ hs'
  done := fun s Q E st hE => nextOf_tuple_end hh st.1 st.2 (by simp) hE
set_option maxHeartbeats 1000000 in
theorem meets_enumerate_newT (l : Addr) (items : Array Value) (n : Nat) (dct : Option Addr) (sl : Array (Option Value)) :
    Meets (Builtin.«enumerate.__new__» ⟨[.type "enumerate", .ref l], []⟩) (fun _ R s => s.heap.get? l = some { cls := .type "tuple", dict := dct, data := .seq items n, slots := sl } ∧
      R (.ok (.ret (.ref (s.heap.push { cls := .type "tuple_iterator", data := .fields #[.ref l, .int 0 0] }).objs.size)))
        { s with heap := (s.heap.push { cls := .type "tuple_iterator", data := .fields #[.ref l, .int 0 0] }).push { cls := .type "enumerate", data := .fields #[.none, .bool false, .ref s.heap.objs.size, rawInt 0, .none, .none] } }) :=
  .of_wp fun prog w A R s h => by
    obtain ⟨hp, g, d, tk, os⟩ := s; obtain ⟨hl, h⟩ := h
    have hsub := sub_enumerate
    have hL : Heap.IsTuple (Shared.heap ⟨hp, g, d, tk, os⟩) l items := ⟨_, hl, rfl, n, rfl⟩
    wp_walk using AutoSeq1.wpAny_loadPart' hl
    refine wpAny_stack_any fun st => wpAny_pure ?_
    split
    · rename_i c _ _ _ _ _
      cases (c == Value.type "enumerate")
      · wp_walk using AutoSeq1.wpAny_loadPart' hl, wpAny_pyIter_tuple hL
        exact ⟨_, rfl, h⟩
      · wp_walk using AutoSeq1.wpAny_loadPart' hl, wpAny_pyIter_tuple hL
        exact ⟨_, rfl, h⟩
    · wp_walk using AutoSeq1.wpAny_loadPart' hl, wpAny_pyIter_tuple hL
      exact ⟨_, rfl, h⟩
theorem call_enumerate_tuple {l : Addr} {items : Array Value} {Q : Value → Shared → Prop} (hL : s.heap.IsTuple l items)
    (h : ∀ h', IsEnum h' (s.heap.objs.size + 1) s.heap.objs.size 0 .none → h'.IsTupleIter s.heap.objs.size l 0 → h'.objs.size = s.heap.objs.size + 2 →
      (∀ b o, s.heap.get? b = some o → h'.get? b = some o) → Q (.ref (s.heap.objs.size + 1)) { s with heap := h' }) :
    wpAny (model prog w) A (call (.type "enumerate") [.ref l]) Q E s := by
  obtain ⟨⟨c, dct, dt, sl⟩, hl, hc, n, hd⟩ := hL
  replace hc : c = .type "tuple" := hc
  replace hd : dt = .seq items n := hd
  subst hc hd
  refine callType_new F.called_enumerate (by decide) (F.typeCall_enumerate_1 _) (F.newCall_enumerate_1 _) (fun obj => F.args_object_init_2 obj _) F.entry_enumerate_new
    (meets_enumerate_newT l items n dct sl) ⟨hl, ?_⟩
  have hz : (s.heap.push { cls := .type "tuple_iterator", data := .fields #[.ref l, .int 0 0] }).objs.size = s.heap.objs.size + 1 := Heap.size_push ..
  show _ ∧ _
  rw [hz]
  have he : IsEnum ((s.heap.push { cls := .type "tuple_iterator", data := .fields #[.ref l, .int 0 0] }).push
      { cls := .type "enumerate", data := .fields #[.none, .bool false, .ref s.heap.objs.size, rawInt 0, .none, .none] }) (s.heap.objs.size + 1) s.heap.objs.size 0 .none := by
    have := Heap.get?_push_size (s.heap.push { cls := .type "tuple_iterator", data := .fields #[.ref l, .int 0 0] })
      (o := { cls := .type "enumerate", data := .fields #[.none, .bool false, .ref s.heap.objs.size, rawInt 0, .none, .none] }) rfl
    rw [hz] at this; exact this
  refine ⟨⟨_, he, rfl⟩, h _ he ⟨_, Heap.get?_push_of_some _ (Heap.get?_push_size _ rfl), rfl, rfl⟩ (by rw [Heap.size_push, hz]) fun b o x => Heap.get?_push_of_some _ (Heap.get?_push_of_some _ x)⟩
end
section
variable {C : Cx} {n : Nat} {env : Env} {ρ ρ' ρ₁ ρ₂ : Rho} {l l' l₁ l₂ l₃ : List PyData} {fl : AFl}

theorem ane {a b : Nat} (h : a ≠ b) : @Ne Addr a b := h
theorem MW.ofU {A : Around} {elts : List Expr} {k : Nat} {pos : Pos} {I : Addr} {fp wr : List Addr} {m : Nat} {Pt : Nat → Array Value → Prop} {St : Nat → Heap → Prop} {Mid : Nat → Addr → Heap → Prop} {ivs : List IV} {g : Heap} (W : WalksU C.prog C.w A I fp wr m Pt St Mid)
    (hm : m = ivs.length) (ex : ∀ i h, St i h → ∀ b ∈ wr, ∃ o, h.get? b = some o) (fpg : ∀ b ∈ fp, b ∈ wr ∨ ∃ o, g.get? b = some o)
    (item : ∀ i vals g', Le g g' → Pt i vals → ∃ as, ivs[i]? = some (.tup as) ∧ AvRs g' vals.toList as) :
    MW C A (.Tuple elts k pos) I fp wr ivs (fun i v h => ∃ T vals, v = .ref T ∧ Pt i vals ∧ h.IsTuple T vals) (fun i v h => ∃ T vals, v = .ref T ∧ Pt i vals ∧ h.IsTuple T vals ∧ Mid i T h) St g :=
  ⟨KTurns.cast hm (KTurns.ofWalksU W), W.self, ex, fpg, fun i v g' h k1 k2 hP => by
    obtain ⟨T, vals, rfl, h1, h2⟩ := hP
    obtain ⟨as, h3, h4⟩ := item i vals g' k1 h1
    exact ⟨_, h3, T, vals.toList, rfl, by simpa using h2, h4⟩⟩

def enumI (ds : List PyData) : List IV := ds.zipIdx.map fun p => IV.tup [.dat (.int (p.2 : Int)), .dat p.1]
theorem IterJ.enumT {func e : Expr} {pos p1 : Pos} {elts : List Expr} {k : Nat} {ds : List PyData} (hf : EJ C n env ρ l func (.val (.type "enumerate")) l₁) (ha : EsJ C n env ρ l₁ [e] [.dat (.tuple ds)] l₂)
    (he : eval (.Call func [e] [] pos) env = (do callWith pos (← eval func env) [] (backTo pos (starEach [e] env)) (backToKw pos (keywordEach [] env))))
    (hst : starEach [e] env = (false, eval e env) :: starEach [] env) :
    IterJ C n env ρ l (.Call func [e] [] pos) (.Tuple elts k p1) (enumI ds) l₂ := by
  refine ⟨?_⟩
  intro A s g Q E RM hg gh hF S kk
  refine Call_ (hf.run A s g _ _ RM hg gh hF S fun v g1 h1 tk x S1 hv => ?_) he
  cases hv
  refine PyProof.Rows.callWith_type1 ((ha.run pos).run A _ g1 _ _ RM (hg.trans x.gg) x.gh (hF.stepP x) S1 fun vs g2 h2 tk2 y S2 a2 => ?_) hst rfl
  obtain ⟨v, rfl, hv⟩ := a2.one
  obtain ⟨a, o, vs, m, rfl, e2, e3, e4, e5⟩ := Rd.tup_inv hv
  have ht : h2.IsTuple a (List.toArray vs) := ⟨o, y.gh _ _ e2, e3, m, e4⟩
  refine call_enumerate_tuple ht fun h3 hE hI hsz hk => ?_
  dsimp only at hE hI hsz hk ⊢
  have z : Stp (fun _ => False) g2 h2 g2 h3 := Stp.keeps y.gh hk
  refine wpAny_pyIter_enum hE ?_
  have hlt : @LT.lt Nat _ a h2.objs.size := Heap.lt_size (y.gh _ _ e2)
  have W := (WalksT.enumerateD (drawsTuple (prog := C.prog) (w := C.w) (A := A.in1) RM.1 h2.objs.size a (Nat.ne_of_lt hlt) (List.toArray vs)) (h2.objs.size + 1) (Nat.succ_ne_self _)
    (by simp only [List.mem_cons, List.not_mem_nil, or_false]; intro q; rcases q with q | q <;> revert q <;> apply ane <;> omega) (by simp)).toU
  refine kk (h2.objs.size + 1) _ _ _ _ _ g2 h3 tk2 (MW.ofU W ?_ (fun i h st b hb => ?_) (fun b hb => ?_) (fun i vals g' kg hP => ?_)) ((x.trans' y).trans' (z.weak fun _ _ _ q => q.elim)) (S2.step z fun _ _ q => q) (fun b hb => ?_) ⟨⟨_, hE⟩, hI, ht.at fun o e => hk _ o e⟩
  · simp [enumI, e5.length]
  · obtain ⟨⟨old, q⟩, ⟨o, q2, _⟩, _⟩ := st
    rcases List.mem_cons.mp hb with rfl | hb
    · exact ⟨_, q⟩
    · rw [List.mem_singleton.mp hb]; exact ⟨_, q2⟩
  · simp only [List.mem_cons, List.not_mem_nil, or_false] at hb ⊢
    rcases hb with rfl | rfl | rfl
    · exact .inl (.inl rfl)
    · exact .inl (.inr rfl)
    · exact .inr ⟨o, e2⟩
  · obtain ⟨t, u, hu, rfl⟩ := hP
    have hu' : vs[i]? = some u := by simpa using hu
    obtain ⟨d, hd, hr'⟩ := e5.get' hu'
    exact ⟨_, by rw [enumI, List.getElem?_map, List.getElem?_zipIdx, hd]; rfl, by simpa using ⟨Rd.int, hr'.mono kg, trivial⟩⟩
  · have xy := x.trans' y
    have hz : ∀ b, h2.objs.size ≤ b → s.heap.get? b = none ∧ g2.get? b = none := fun b hb => by
      have hz := fresh_none (h := h2) hb
      refine ⟨?_, none_of_le y.gh hz⟩
      cases q : s.heap.get? b with
      | none => rfl
      | some o' => obtain ⟨o2, e⟩ := xy.ex _ _ q; rw [hz] at e; cases e
    simp only [List.mem_cons, List.not_mem_nil, or_false] at hb
    rcases hb with rfl | rfl
    · exact hz _ (by omega)
    · exact hz _ (by omega)

/-- an expression that makes an iterator -/
structure MakeJ (C : Cx) (n : Nat) (env : Env) (ρ : Rho) (l : List PyData) (e target : Expr) (ivs : List IV) (l' : List PyData) : Prop where
  run : ∀ (A : Around) (s : Shared) (g : Heap) (Q : Value → Shared → Prop) (E : Value → Shared → Prop), Room n A → Le C.h₀ g → Le g s.heap → FR g C.p env ρ s.heap → ST g C.p l s.heap →
    (∀ I fp wr P Md St g' h' tk, MW C A target I fp wr ivs P Md St g' → Stp (isP C.p) g s.heap g' h' → ST g' C.p l' h' → (∀ b ∈ wr, s.heap.get? b = none ∧ g'.get? b = none) → St 0 h' → Q (.ref I) { s with heap := h', toks := tk }) →
    wpAny (model C.prog C.w) A (eval e env) Q E s
theorem IterJ.make {e target : Expr} {ivs : List IV} (h : MakeJ C n env ρ l e target ivs l') : IterJ C n env ρ l e target ivs l' := by
  refine ⟨?_⟩
  intro A s g Q E RM hg gh hF S k
  exact h.run A s g _ _ RM hg gh hF S fun I fp wr P Md St g' h' tk M x S1 hwr st => M.self 0 _ _ _ st (k I fp wr P Md St g' h' tk M x S1 hwr st)
/-- an iterator is kept under a name, and walked -/
theorem BsJ.makeFor {x : Str} {px nx apos fpos : Pos} {e target : Expr} {body rest : List Stmt} {ivs : List IV} {ρ₃ : Rho} (hx : StoreOk env x) (hxl : env.kindOf x = some .local) (hxd : (x == ("__debug__" : Str)) = false) (hs : swapsWith e (some (.Name x px)) apos.line env = Pure.pure false) (hρ : ρ.lookup x = none)
    (hm : MakeJ C n env ρ l e target ivs l₁) (hl : Loop (FStep C n env target body) ivs ρ l₁ .next ρ₂ l₂) (hf : ∀ v, foldedSetIterable (.Name x nx) env v = Pure.pure v) (hr : BsJ C n env ρ₂ l₂ rest ρ₃ l₃ fl) :
    BsJ C n env ρ l (.Assign [.Name x px] e apos :: .For target (.Name x nx) body [] fpos :: rest) ρ₃ l₃ fl := by
  refine ⟨?_⟩
  intro A s g Q E RM hg gh hF S k
  refine wpAny_execs_cons (wpAny_Assign_Name (hm.run A s g _ _ RM hg gh hF S fun I fp wr P Md St g1 h1 tk M x1 S1 hwr st => ?_) hs)
  have F1 := hF.stepP x1
  refine store_J (a := .val (.ref I)) (s := { s with heap := h1, toks := tk }) hx x1.gh F1 S1 rfl fun h2 tk2 y F2 S2 => ?_
  have T : Stp (WL C.p env) g s.heap g1 h2 := x1.up.trans' y
  have pw : ∀ a, C.p = some a → a ∉ wr := fun a e q => by
    obtain ⟨_, _, ⟨_, e', _⟩, _⟩ := S a e
    rw [(hwr a q).1] at e'; cases e'
  have Lw : env.locals ∉ wr := fun q => by obtain ⟨o, e⟩ := hF.has; rw [(hwr _ q).1] at e; cases e
  have cw : ∀ y c, env.cells.lookup y = some c → c ∉ wr := fun y c e q => by
    obtain ⟨_, _, _, o, _, e', _⟩ := hF.cg y c e
    rw [(hwr c q).1] at e'; cases e'
  have st2 : St 0 h2 := M.kt.frame _ _ _ st fun b hbf o e => by
    rcases M.fpg b hbf with q | ⟨o', q⟩
    · exact y.keep b o (fun z => by
        rcases z with z | z | ⟨_, v, z⟩
        · exact pw b z q
        · exact Lw (z ▸ q)
        · exact cw v b z q) e
    · have e1 := x1.gh b o' q
      rw [e] at e1; cases e1
      exact y.gh b o q
  have sub : FR g1 C.p env ρ h2 := F2.sub fun z a e => by
    rw [List.lookup_cons]
    cases q : z == x with
    | true => rw [beq_iff_eq.mp q, hρ] at e; cases e
    | false => exact e
  refine wpAny_execs_cons (wpAny_For ((EJ.name_l (a := .val (.ref I)) (by rw [List.lookup_cons, beq_self_eq_true]) hxl hx.1 hxd).run A _ g1 _ _ RM (hg.trans x1.gg) y.gh F2 S2 fun v g3 h3 tk3 z S3 hv => ?_) hf)
  cases hv
  have Z : Stp (WL C.p env) g s.heap g3 h3 := T.trans' z.up
  have st3 : St 0 h3 := M.kt.frame _ _ _ st2 fun b hbf o e => by
    rcases M.fpg b hbf with q | ⟨o', q⟩
    · exact z.keep b o (fun w => pw b w q) e
    · have e1 := y.gh b o' q
      rw [e] at e1; cases e1
      exact z.gh b o (z.gg b o q)
  have hwr3 : ∀ b ∈ wr, s.heap.get? b = none ∧ g3.get? b = none := fun b hb => by
    obtain ⟨o, e⟩ := M.ex _ _ st2 b hb
    exact ⟨(hwr b hb).1, z.new b o e (hwr b hb).2⟩
  have M3 : MW C A target I fp wr ivs P Md St g3 := ⟨M.kt, M.self, M.ex, fun b hb => (M.fpg b hb).imp id fun ⟨o, e⟩ => ⟨o, z.gg b o e⟩, fun i v g' h kg kh hP => M.item i v g' h (z.gg.trans kg) kh hP⟩
  refine M.self 0 _ _ _ st3 (for_core (s := s) (h' := h3) (tk := tk3) hl RM hg hF S M3 Z (sub.stepP z) S3 hwr3 st3 fun f g4 h4 tk4 T4 F4 S4 hf => ?_)
  cases f with
  | next => exact hr.run A _ g4 _ _ RM (hg.trans T4.gg) T4.gh F4 S4 fun f g5 h5 tk5 T5 F5 S5 hf => k f g5 h5 tk5 (T4.trans' T5) F5 S5 hf
  | _ => exact hf.elim

def zipI (xs ys : List PyData) : List IV := (xs.zip ys).map fun p => IV.tup [.dat p.1, .dat p.2]
theorem MakeJ.zip2 {func e e' : Expr} {pos p1 : Pos} {elts : List Expr} {k : Nat} {xs ys : List PyData} (hf : EJ C n env ρ l func (.val (.type "zip")) l₁) (ha : EsJ C n env ρ l₁ [e, e'] [.dat (.list xs), .dat (.list ys)] l₂)
    (he : eval (.Call func [e, e'] [] pos) env = (do callWith pos (← eval func env) [] (backTo pos (starEach [e, e'] env)) (backToKw pos (keywordEach [] env))))
    (hst : starEach [e, e'] env = (false, eval e env) :: starEach [e'] env) (hpl : (backTo pos (starEach [e'] env)).any (·.1) = false) :
    MakeJ C n env ρ l (.Call func [e, e'] [] pos) (.Tuple elts k p1) (zipI xs ys) l₂ := by
  refine ⟨?_⟩
  intro A s g Q E RM hg gh hF S kk
  refine Call_ (hf.run A s g _ _ RM hg gh hF S fun v g1 h1 tk x S1 hv => ?_) he
  cases hv
  refine PyProof.Rows.callWith_type1 ((ha.run pos).run A _ g1 _ _ RM (hg.trans x.gg) x.gh (hF.stepP x) S1 fun vs g2 h2 tk2 y S2 a2 => ?_) hst hpl
  obtain ⟨v, u, rfl, hv, hu⟩ := a2.two
  obtain ⟨a, o, vs, m, rfl, e2, e3, e4, e5⟩ := Rd.lst_inv hv
  obtain ⟨b, o', us, m', rfl, f2, f3, f4, f5⟩ := Rd.lst_inv hu
  have ht : h2.IsList a (List.toArray vs) := ⟨o, y.gh _ _ e2, e3, m, e4⟩
  have ht' : h2.IsList b (List.toArray us) := ⟨o', y.gh _ _ f2, f3, m', f4⟩
  refine call_zip_2 ht ht' fun h3 q1 q2 q3 q4 q5 hsz hk => ?_
  dsimp only at q1 q2 q3 q4 q5 hsz hk ⊢
  have z : Stp (fun _ => False) g2 h2 g2 h3 := Stp.keeps y.gh hk
  obtain ⟨g3, z', gg3, hTI, hn3⟩ := z.freeze (fresh_none (by omega)) q2
  have hlt : @LT.lt Nat _ a h2.objs.size := Heap.lt_size (y.gh _ _ e2)
  have hlt' : @LT.lt Nat _ b h2.objs.size := Heap.lt_size (y.gh _ _ f2)
  have D : ZipApart (h2.objs.size + 4) (h2.objs.size + 2) (h2.objs.size + 3) h2.objs.size (h2.objs.size + 1) a b := by
    constructor <;> apply ane <;> omega
  have W := (WalksT.zip2 (prog := C.prog) (w := C.w) (A := A) RM.1 (h2.objs.size + 4) (h2.objs.size + 2) (h2.objs.size + 3) h2.objs.size (h2.objs.size + 1) a b D (List.toArray vs) (List.toArray us)).toU
  refine kk (h2.objs.size + 4) _ _ _ _ _ g3 h3 tk2 (MW.ofU W ?_ (fun i h st b' hb => ?_) (fun b' hb => ?_) (fun i vals g' kg hP => ?_)) ((x.trans' y).trans' (z'.weak fun _ _ _ q => q.elim)) (S2.step z' fun _ _ q => q) (fun b' hb => ?_) ⟨q1, q2, ⟨_, _, q3⟩, q4, q5, ht.at fun o e => hk _ o e, ht'.at fun o e => hk _ o e⟩
  · simp [zipI, e5.length, f5.length]
  · obtain ⟨s1, s2, ⟨_, _, s3⟩, ⟨_, s4, _⟩, ⟨_, s5, _⟩, _⟩ := st
    simp only [List.mem_cons, List.not_mem_nil, or_false] at hb
    rcases hb with rfl | rfl | rfl | rfl
    · exact ⟨_, s1⟩
    · exact ⟨_, s3⟩
    · exact ⟨_, s4⟩
    · exact ⟨_, s5⟩
  · simp only [List.mem_cons, List.not_mem_nil, or_false] at hb ⊢
    rcases hb with rfl | rfl | rfl | rfl | rfl | rfl | rfl
    · exact .inl (.inl rfl)
    · exact .inr ⟨_, hTI⟩
    · exact .inl (.inr (.inl rfl))
    · exact .inl (.inr (.inr (.inl rfl)))
    · exact .inl (.inr (.inr (.inr rfl)))
    · exact .inr ⟨o, gg3 _ _ e2⟩
    · exact .inr ⟨o', gg3 _ _ f2⟩
  · obtain ⟨p, q, hp, hq, rfl⟩ := hP
    have hp' : vs[i]? = some p := by simpa using hp
    have hq' : us[i]? = some q := by simpa using hq
    obtain ⟨d, hd, hr⟩ := e5.get' hp'
    obtain ⟨d', hd', hr'⟩ := f5.get' hq'
    refine ⟨_, by rw [zipI, List.getElem?_map, List.getElem?_zip_eq_some (z := (d, d')) |>.mpr ⟨hd, hd'⟩]; rfl, ?_⟩
    exact ⟨(hr.mono gg3).mono kg, (hr'.mono gg3).mono kg, trivial⟩
  · have xy := x.trans' y
    have hz : ∀ b, h2.objs.size ≤ b → b ≠ h2.objs.size + 2 → s.heap.get? b = none ∧ g3.get? b = none := fun b hb hne => by
      have hz := fresh_none (h := h2) hb
      refine ⟨?_, hn3 b hne (none_of_le y.gh hz)⟩
      cases q : s.heap.get? b with
      | none => rfl
      | some o' => obtain ⟨o2, e⟩ := xy.ex _ _ q; rw [hz] at e; cases e
    simp only [List.mem_cons, List.not_mem_nil, or_false] at hb
    rcases hb with rfl | rfl | rfl | rfl
    · exact hz _ (by omega) (by omega)
    · exact hz _ (by omega) (by omega)
    · exact hz _ (by omega) (by omega)
    · exact hz _ (by omega) (by omega)
end
end Mine
namespace Mine

structure DOk (C : Cx) (env : Env) (D : Addr) (g : Heap) : Prop where
  g : g.get? D = none
  p : C.p ≠ some D
  l : D ≠ env.locals
  c : ∀ y c, env.cells.lookup y = some c → c ≠ D
def WLD (p : Option Addr) (env : Env) (D : Addr) : Addr → Prop := fun b => WL p env b ∨ b = D

/-- a tree that adds `out` to the list at D -/
structure InJ (C : Cx) (n : Nat) (env : Env) (D : Addr) (ρ : Rho) (l : List PyData) (t : Sem Unit) (out l' : List PyData) : Prop where
  run : ∀ (A : Around) (s : Shared) (g : Heap) (Q : Unit → Shared → Prop) (E : Value → Shared → Prop) (vs : List Value) (ds : List PyData), Room n A → Le C.h₀ g → Le g s.heap → FR g C.p env ρ s.heap → ST g C.p l s.heap →
    DOk C env D g → IsL s.heap D vs → RdAll g vs ds → ds.length + out.length ≤ 5000 →
    (∀ g' h' tk vs', Stp (WLD C.p env D) g s.heap g' h' → FR g' C.p env ρ h' → ST g' C.p l' h' → IsL h' D vs' → RdAll g' vs' (ds ++ out) → Q () { s with heap := h', toks := tk }) → wpAny (model C.prog C.w) A t Q E s

/-- the tests of a generator -/
def TsJ (C : Cx) (n : Nat) (env : Env) (ρ : Rho) (l : List PyData) (ifs : List Expr) (ok : Bool) (l' : List PyData) : Prop :=
  TJ C n (FRc C env ρ) l (forIn ifs true fun c r => if r = true then do let ok ← isTrue c env (eval c env); pure (ForInStep.yield ok) else pure (ForInStep.yield r)) (fun _ b => b = ok) l'

def CStep (C : Cx) (n : Nat) (env : Env) (target : Expr) (ifs : List Expr) (inn : Rho → List PyData → List PyData → List PyData → Prop) (ρ : Rho) (iv : IV) (l out l' : List PyData) : Prop :=
  ∃ ρ₁ l₁ ok, AsJ C n env target iv ρ ρ₁ ∧ (∀ x a, ρ.lookup x = some a → ρ₁.lookup x = some a) ∧ TsJ C n env ρ₁ l ifs ok l₁ ∧ (if ok then inn ρ₁ l₁ out l' else out = [] ∧ l' = l₁)

inductive CLoop (stp : IV → List PyData → List PyData → List PyData → Prop) : List IV → List PyData → List PyData → List PyData → Prop
  | nil {l : List PyData} : CLoop stp [] l [] l
  | cons {iv : IV} {ivs : List IV} {l l₁ l₂ out outs : List PyData} : stp iv l out l₁ → CLoop stp ivs l₁ outs l₂ → CLoop stp (iv :: ivs) l (out ++ outs) l₂

section
variable {C : Cx} {n : Nat} {env : Env} {ρ ρ' ρ₁ ρ₂ : Rho} {l l' l₁ l₂ l₃ : List PyData} {fl : AFl}

theorem TsJ.nil : TsJ C n env ρ l [] true l := ⟨fun A s g Q E RM hg gh hF S k => wpAny_tests_nil (k true g s.heap s.toks (Stp.refl gh) S rfl)⟩
theorem TsJ.one {c : Expr} {ok : Bool} (h : BJ C n env ρ l c ok l') : TsJ C n env ρ l [c] ok l' := ⟨fun A s g Q E RM hg gh hF S k => wpAny_tests_one (h.run A s g _ _ RM hg gh hF S k)⟩

theorem DOk.mono {D : Addr} {g g' h : Heap} (x : DOk C env D g) (e : g'.get? D = none) : DOk C env D g' := ⟨e, x.p, x.l, x.c⟩

theorem InJ.emit {D : Addr} {elt : Expr} {d : PyData} (h : EJ C n env ρ l elt (.dat d) l') : InJ C n env D ρ l (do let _ ← call (.builtin "list.append") [.ref D, ← eval elt env]) [d] l' := by
  refine ⟨?_⟩
  intro A s g Q E vs ds RM hg gh hF S hD hL hr hz k
  refine wpAny_bind (h.run A s g _ _ RM hg gh hF S fun v g1 h1 tk x S1 hv => ?_)
  have hL1 : IsL h1 D vs := let ⟨o, e, q⟩ := hL; ⟨o, x.keep _ _ hD.p e, q⟩
  have hlen := hr.length
  have e1 : g1.get? D = none := let ⟨o, e, q⟩ := hL; x.new _ _ e hD.g
  refine wpAny_bind (wpAny_list_append_plain (s := { s with heap := h1, toks := tk }) hL1.plain (fun h2 hl2 hs2 => wpAny_pure ?_) (by rw [List.size_toArray, sizeLine_eq]; simp at hz; omega))
  rw [show (List.toArray vs).push v = List.toArray (vs ++ [v]) by simp] at hl2
  obtain ⟨o2, q2, _⟩ := IsL.of hl2
  have y : Stp (fun b => b = D) g1 h1 g1 h2 := Stp.same x.gh e1 rfl hs2 q2
  refine k g1 h2 tk (vs ++ [v]) ((x.weak fun _ _ _ q => .inl (isP_WL q)).trans y (fun _ _ _ q => q) fun _ _ _ q => .inr q) ((hF.stepP x).step y (fun q => hD.l q.symm) fun _ c e q => hD.c _ c e q) (S1.step y fun a e q => hD.p (by rw [e, q])) ?_ ?_
  · exact IsL.of hl2
  · exact (hr.mono x.gg).append (.cons hv .nil)

theorem compLoop_J {target : Expr} {elt : Expr} {gens : List Comprehension} {scope : Scope} {pos : Pos} {ifs : List Expr} {depth : Nat} {p1 : Pos} {inner : Sem Unit} {inn : Rho → List PyData → List PyData → List PyData → Prop} {I D : Addr} {fp wr : List Addr} {ivs : List IV} {P Md : Nat → Value → Heap → Prop} {St : Nat → Heap → Prop} {outs ds : List PyData} {vs : List Value}
    {A : Around} {s : Shared} {gB hB g : Heap} {R : Result → Shared → Prop}
    (hturn : compTurn (.ListComp elt gens scope pos) depth (.ref I) (.ref D) env = (do
      standAt p1
      match ← pyNext (.ref I) with
      | none => pure (.done .next)
      | some v =>
        letOwnedTupleGo target (.ref I) v
        assign target env v
        let mut ok := true
        for c in ifs do
          if ok then ok ← isTrue c env (eval c env)
        if ok then inner
        again (.compLoop (.ListComp elt gens scope pos) depth (.ref I) (.ref D) env)))
    (hinn : ∀ ρ l out l', inn ρ l out l' → InJ C n env D ρ l inner out l')
    (hl : CLoop (CStep C n env target ifs inn ρ) ivs l outs l₂)
    (RM : Room n A) (hg : Le C.h₀ g) (M : MW C A target I fp wr ivs P Md St g) (gh : Le g s.heap) (hF : FR g C.p env ρ s.heap) (S : ST g C.p l s.heap) (hD : DOk C env D g) (hL : IsL s.heap D vs) (hr : RdAll g vs ds)
    (hz : ds.length + outs.length ≤ 5000) (x : Stp (WLD C.p env D) gB hB g s.heap) (hwr : ∀ b ∈ wr, hB.get? b = none ∧ g.get? b = none ∧ ¬ WLD C.p env D b ∧ ∀ y, env.cells.lookup y ≠ some b) (st : St 0 s.heap)
    (k : ∀ g' h' tk vs', Stp (WLD C.p env D) gB hB g' h' → FR g' C.p env ρ h' → ST g' C.p l₂ h' → IsL h' D vs' → RdAll g' vs' (ds ++ outs) → R (.ok .next) { s with heap := h', toks := tk }) :
    codeAny (model C.prog C.w) A (.compLoop (.ListComp elt gens scope pos) depth (.ref I) (.ref D) env) R s := by
  have Lw : env.locals ∉ wr := fun q => (hwr _ q).2.2.1 (.inl (.inr (.inl rfl)))
  have pw : ∀ a, C.p = some a → a ∉ wr := fun a e q => (hwr _ q).2.2.1 (.inl (.inl e))
  have cw : ∀ y c, env.cells.lookup y = some c → c ∉ wr := fun y c e q => by
    obtain ⟨_, _, _, o, _, e', _⟩ := hF.cg y c e
    exact (hwr _ q).2.2.2 y e
  have Dw : D ∉ wr := fun q => (hwr _ q).2.2.1 (.inr rfl)
  refine codeAny_loop rfl
    (fun j s' => ∃ hh tk gi li vi oi oo i, s' = { s with heap := hh, toks := tk } ∧ Stp (fun b => WLD C.p env D b ∨ b ∈ wr) g s.heap gi hh ∧ FR gi C.p env ρ hh ∧ ST gi C.p li hh ∧ St i hh ∧ i ≤ ivs.length ∧ j = ivs.length + 1 - i ∧
      IsL hh D vi ∧ RdAll gi vi (ds ++ oi) ∧ oi ++ oo = outs ∧ CLoop (CStep C n env target ifs inn ρ) (ivs.drop i) li oo l₂)
    ?_ (ivs.length + 1) ⟨s.heap, s.toks, g, l, vs, [], outs, 0, rfl, Stp.refl gh, hF, S, st, Nat.zero_le _, rfl, hL, by rw [List.append_nil]; exact hr, rfl, hl⟩
  rintro j s' ⟨hh, tk, gi, li, vi, oi, oo, i, rfl, y, Fi, Si, sti, hi, rfl, hLi, hri, rfl, hli⟩
  show wpAny _ A ((compTurn (.ListComp elt gens scope pos) depth (.ref I) (.ref D) env).onRaise (fun x => do noteFrame x env; theTreesLotGoes x)) _ _ _
  refine wpAny_noted ?_
  rw [hturn]
  refine wpAny_bind (wpAny_standAt (wpAny_bind ?_))
  have hgi : Le C.h₀ gi := hg.trans y.gg
  have gw : ∀ b ∈ wr, gi.get? b = none := fun b hb => by obtain ⟨o, e⟩ := M.ex _ _ st b hb; exact y.new b o e (hwr b hb).2.1
  have Di : DOk C env D gi := hD.mono (h := hh) (by obtain ⟨o, e, _⟩ := hL; exact y.new _ _ e hD.g)
  have fin : ∀ (g₃ h₃ : Heap), Stp (fun b => WLD C.p env D b ∨ b ∈ wr) g s.heap g₃ h₃ → Stp (WLD C.p env D) gB hB g₃ h₃ := fun g₃ h₃ z =>
    x.trans z (fun _ _ _ q => q) fun b o e q => q.elim id fun q => by rw [(hwr b q).1] at e; cases e
  by_cases hlt : i < ivs.length
  · refine M.kt.item i _ _ _ hlt sti fun v ha tka hMd ka => ?_
    refine wpAny_bind (M.kt.go i v _ _ _ hMd fun hb hP stb kb => ?_)
    have kab : ∀ b o, b ∉ wr → hh.get? b = some o → hb.get? b = some o := fun b o q e => kb b o q (ka b o q e)
    have gb : Le gi hb := fun b o e => kab b o (fun q => by rw [gw b q] at e; cases e) (y.gh b o e)
    have z : Stp (fun b => b ∈ wr) gi hh gi hb := ⟨Le.rfl, gb, fun b o q e => kab b o q e, fun _ _ _ e => e, fun b o e => by
      by_cases q : b ∈ wr
      · exact M.ex _ _ stb b q
      · exact ⟨o, kab b o q e⟩⟩
    obtain ⟨iv, hiv, hR⟩ := M.item i v gi hb y.gg gb hP
    have Fb : FR gi C.p env ρ hb := Fi.step z Lw cw
    have Sb : ST gi C.p li hb := Si.step z pw
    have hLb : IsL hb D vi := let ⟨o, e, q⟩ := hLi; ⟨o, kab _ _ Dw e, q⟩
    have hdrop : ivs.drop i = iv :: ivs.drop (i + 1) := by
      obtain ⟨hl', e⟩ := List.getElem?_eq_some_iff.mp hiv
      rw [List.drop_eq_getElem_cons hl', e]
    rw [hdrop] at hli
    have stp : ∀ (g₃ h₃ : Heap), Stp (WLD C.p env D) gi hb g₃ h₃ → St (i + 1) hb → St (i + 1) h₃ := fun g₃ h₃ zc q => M.kt.frame _ _ _ q fun b hbf o e => by
      rcases M.fpg b hbf with q | ⟨o', q⟩
      · exact zc.keep b o (hwr b q).2.2.1 e
      · have e1 := gb b o' (y.gg b o' q)
        rw [e] at e1; cases e1
        exact zc.gh b o (zc.gg b o (y.gg b o q))
    cases hli with
    | @cons _ _ _ l₁ _ out outs h1 h2 =>
      obtain ⟨ρ₁, l₀, ok, hA, hsub, hT, hI⟩ := h1
      refine wpAny_bind (hA.run A { s with heap := hb, toks := tka } gi li v _ _ RM hgi gb Fb Sb hR fun hc tkc zc Fc Sc => ?_)
      refine wpAny_bind (hT.run A _ gi _ _ RM hgi zc.gh Fc Sc fun b gd hd tkd zd Sd hb' => ?_)
      subst hb'
      have zcd : Stp (WL C.p env) gi hb gd hd := zc.trans zd (fun _ _ _ q => q) fun _ _ _ q => isP_WL q
      have Fd := Fc.stepP zd
      have hLd : IsL hd D vi := let ⟨o, e, q⟩ := hLb; ⟨o, zcd.keep _ _ (fun q => by
        rcases q with q | q | ⟨_, y, q⟩
        · exact hD.p q
        · exact hD.l q
        · exact hD.c y D q rfl) e, q⟩
      have zcd' : Stp (WLD C.p env D) gi hb gd hd := zcd.weak fun _ _ _ q => .inl q
      have yy : Stp (fun b => WLD C.p env D b ∨ b ∈ wr) g s.heap gd hd := (y.trans z (fun _ _ _ q => q) fun _ _ _ q => .inr q).trans zcd' (fun _ _ _ q => q) fun _ _ _ q => .inl q
      cases b with
      | false =>
        obtain ⟨rfl, rfl⟩ := hI
        exact wpAny_pure ⟨rfl, ivs.length + 1 - (i + 1), by omega, hd, tkd, gd, _, vi, oi, outs, i + 1, rfl, yy, Fd.sub hsub, Sd, stp _ _ zcd' stb, hlt, rfl, hLd, hri.mono zcd.gg, by simp, h2⟩
      | true =>
        have Dd : DOk C env D gd := Di.mono (h := hd) (by obtain ⟨o, e, _⟩ := hLb; exact zcd.new _ _ e Di.g)
        refine wpAny_bind ((hinn _ _ _ _ hI).run A _ gd _ _ vi (ds ++ oi) RM (hgi.trans zcd.gg) zcd.gh Fd Sd Dd hLd (hri.mono zcd.gg) (by simp only [List.length_append] at hz ⊢; omega) fun ge he tke ve ze Fe Se hLe hre => wpAny_pure ?_)
        exact ⟨rfl, ivs.length + 1 - (i + 1), by omega, he, tke, ge, l₁, ve, oi ++ out, outs, i + 1, rfl, yy.trans ze (fun _ _ _ q => q) fun _ _ _ q => .inl q, Fe.sub hsub, Se, stp _ _ (zcd'.trans' ze) stb, hlt, rfl, hLe, by rw [← List.append_assoc]; exact hre, by simp, h2⟩
  · have hin : i = ivs.length := by omega
    subst hin
    rw [List.drop_length] at hli
    cases hli
    rw [List.append_nil] at k
    refine M.kt.done _ _ _ sti fun hz' tkz kz => wpAny_pure ?_
    have zz := fin _ _ y
    have gz : Le gi hz' := fun b o e => kz b o (fun q => by rw [gw b q] at e; cases e) (y.gh b o e)
    have nw : ∀ b o, hB.get? b = some o → b ∉ wr := fun b o e q => by rw [(hwr b q).1] at e; cases e
    have stz : Stp (WLD C.p env D) gB hB gi hz' := ⟨zz.gg, gz, fun b o q e => kz b o (nw b o e) (zz.keep b o q e), zz.new, fun b o e => by obtain ⟨o', e'⟩ := zz.ex b o e; exact ⟨o', kz b o' (nw b o e) e'⟩⟩
    have Fz : FR gi C.p env ρ hz' := ⟨let ⟨m, hn, q⟩ := Fi.ns; ⟨m, hn.at' fun o e => kz _ o Lw e, q⟩, fun y a e kk => let ⟨c, o, v, e1, e2, e3, e4⟩ := Fi.cell y a e kk; ⟨c, o, v, e1, kz _ _ (cw y c e1) e2, e3, e4⟩, Fi.lg, Fi.lp,
      fun y c e => let ⟨a1, a2, a3, o, v, a4, a5⟩ := Fi.cg y c e; ⟨a1, a2, a3, o, v, kz _ _ (cw y c e) a4, a5⟩, Fi.cu⟩
    have Sz : ST gi C.p l₂ hz' := fun a e => let ⟨a1, vs, ⟨o, a2, q⟩, a3⟩ := Si a e; ⟨a1, vs, ⟨o, kz _ _ (pw a e) a2, q⟩, a3⟩
    exact k gi hz' tkz vi stz Fz Sz (let ⟨o, e, q⟩ := hLi; ⟨o, kz _ _ Dw e, q⟩) hri
end
end Mine
namespace Mine

/-- a list with no dict of its own, of this data -/
def LstN (ds : List PyData) : Heap → Value → Prop := fun g v => Rd g v (.list ds) ∧ ∃ o, (match v with | .ref a => g.get? a | _ => none) = some o ∧ o.dict = none
theorem LstN.mono {ds : List PyData} : ∀ g g' v, LstN ds g v → Le g g' → LstN ds g' v := fun g g' v ⟨h, o, e, n⟩ k => by
  refine ⟨h.mono k, o, ?_, n⟩
  cases v <;> first | exact k _ _ e | cases e
abbrev lstN (ds : List PyData) : AV := .inv (LstN ds) LstN.mono
def ClOk (env : Env) (scope : Scope) : List (Str × Addr) → Prop
  | [] => True
  | (x, c) :: r => (env.cells.lookup x = some c ∧ (env.kindOf x == some .local) = false ∧ ((relabel scope env).names.lookup x == some .local) = false) ∧ ClOk env scope r
def SubRho (ρ : Rho) (cl : List (Str × Addr)) : Rho → Prop
  | [] => True
  | (x, a) :: r => (ρ.lookup x = some a ∧ (cl.lookup x).isSome = true) ∧ SubRho ρ cl r
structure CompOk (env : Env) (scope : Scope) (cl : List (Str × Addr)) : Prop where
  clos : closureFor scope env = Pure.pure cl
  kind : scope.kind = .function
  names : ∀ y ∈ scope.names, y.2 = .local → scope.names.lookup y.1 = some .local
  cell : ∀ y ∈ scope.names, y.2 ≠ .cell
  ok : ClOk env scope cl
theorem ClOk.get {env : Env} {scope : Scope} : ∀ {cl : List (Str × Addr)} {x : Str} {c : Addr}, ClOk env scope cl → cl.lookup x = some c → env.cells.lookup x = some c ∧ (env.kindOf x == some .local) = false ∧ ((relabel scope env).names.lookup x == some .local) = false
  | [], _, _, _, e => by cases e
  | (y, d) :: r, x, c, h, e => by
    rw [List.lookup_cons] at e
    cases q : x == y with
    | true => rw [q] at e; cases e; rw [beq_iff_eq.mp q]; exact h.1
    | false => rw [q] at e; exact ClOk.get h.2 e
theorem SubRho.get {ρ : Rho} {cl : List (Str × Addr)} : ∀ {ρc : Rho} {x : Str} {a : AV}, SubRho ρ cl ρc → ρc.lookup x = some a → ρ.lookup x = some a ∧ (cl.lookup x).isSome = true
  | [], _, _, _, e => by cases e
  | (y, d) :: r, x, c, h, e => by
    rw [List.lookup_cons] at e
    cases q : x == y with
    | true => rw [q] at e; cases e; rw [beq_iff_eq.mp q]; exact h.1
    | false => rw [q] at e; exact SubRho.get h.2 e

section
variable {prog : Program} {w : World} {A : Around} {E : Value → Shared → Prop} {R : Result → Shared → Prop} {s : Shared}
theorem compStart_d {elt target iter : Expr} {ifs : List Expr} {gens : List Comprehension} {scope : Scope} {pos : Pos} {it acc : Value} {env : Env} {d : Nat} (hd : gens[d]? = some ⟨target, iter, ifs, 0⟩)
    (h0 : codeAny (model prog w) A (.compLoop (.ListComp elt gens scope pos) d it acc env) R s)
    (h : wpAny (model prog w) A (pyIter it) (fun it' s' => codeAny (model prog w) A (.compLoop (.ListComp elt gens scope pos) d it' acc env) R s')
      (notedBy (model prog w) A env fun x s' => R (.error x) s') s) :
    codeAny (model prog w) A (.compStart (.ListComp elt gens scope pos) d it acc env) R s := by
  refine codeAny_of_tree ?_
  show wpAny _ _ ((compStart (.ListComp elt gens scope pos) d it acc env).onRaise (fun x => do noteFrame x env; standAt theWindowsPlace)) _ _ s
  refine wpAny_notedAt ?_
  unfold compStart
  have hc : (clausesOf (.ListComp elt gens scope pos))[d]? = some ⟨target, iter, ifs, 0⟩ := hd
  rw [hc]
  show wpAny _ _ (ask >>= _) _ _ s
  refine wpAny_bind (wpAny_askSetting (wpAny_ite ?_))
  split
  · first
      | exact wpAny_bind (wpAny_pure (wpAny_pure (And.intro rfl h0)))
      | exact wpAny_pure (And.intro rfl h0)
  · first
      | exact wpAny_bind (wpAny_rule (wpAny_bind (wpAny_standAt (wpAny_bind (wpAny_mono h (fun it' s' h' => wpAny_pure (And.intro rfl h')) fun _ _ x => x)))))
      | (refine wpAny_bind (wpAny_rule ?_); show wpAny _ _ (standAt iter.pos >>= _) _ _ s; exact wpAny_bind (wpAny_standAt (wpAny_bind (wpAny_mono h (fun it' s' h' => wpAny_pure (And.intro rfl h')) fun _ _ x => x))))
end

section
variable {C : Cx} {n : Nat} {env : Env} {ρ ρ' ρc ρ₁ ρ₂ : Rho} {l l' l₁ l₂ l₃ : List PyData} {fl : AFl}

/-- the element of a comprehension -/
def One (C : Cx) (n : Nat) (env : Env) (elt : Expr) (ρ : Rho) (l out l' : List PyData) : Prop := ∃ d, out = [d] ∧ EJ C n env ρ l elt (.dat d) l'
theorem One.inj {elt : Expr} {D : Addr} : ∀ ρ l out l', One C n env elt ρ l out l' → InJ C n env D ρ l (do let _ ← call (.builtin "list.append") [.ref D, ← eval elt env]) out l' := by
  rintro ρ l out l' ⟨d, rfl, h⟩
  exact InJ.emit h

/-- the second generator -/
def Two (C : Cx) (n : Nat) (env : Env) (elt t₂ i₂ : Expr) (ifs₂ : List Expr) (ρ : Rho) (l out l' : List PyData) : Prop :=
  ∃ ivs l₁, IterJ C n env ρ l i₂ t₂ ivs l₁ ∧ CLoop (CStep C n env t₂ ifs₂ (One C n env elt) ρ) ivs l₁ out l'
abbrev inner2 (elt t₁ i₁ t₂ i₂ : Expr) (ifs₁ ifs₂ : List Expr) (scope : Scope) (pos : Pos) (D : Addr) (env : Env) : Sem Unit := do
  let x ← eval i₂ env
  standAt i₂.pos
  let x ← foldedSetIterable i₂ env x
  let _ ← runOwn (.compStart (.ListComp elt [⟨t₁, i₁, ifs₁, 0⟩, ⟨t₂, i₂, ifs₂, 0⟩] scope pos) 1 (← holding [x] (pyIter x)) (.ref D) env) env

theorem Two.inj {elt t₁ i₁ t₂ i₂ : Expr} {ifs₁ ifs₂ : List Expr} {scope : Scope} {pos : Pos} {D : Addr} (hs : ∀ x, foldedSetIterable i₂ env x = Pure.pure x) : ∀ ρ l out l', Two C n env elt t₂ i₂ ifs₂ ρ l out l' →
    InJ C n env D ρ l (inner2 elt t₁ i₁ t₂ i₂ ifs₁ ifs₂ scope pos D env) out l' := by
  rintro ρ l out l' ⟨ivs, l₁, hit, hl⟩
  refine ⟨?_⟩
  intro A s g Q E vs ds RM hg gh hF S hD hL hr hz k
  refine wpAny_bind (wpAny_mono (hit.run A s g _ _ RM hg gh hF S fun I fp wr P Md St g1 h1 tk M x S1 hwr st => ?_) (fun v s₁ hv => wpAny_bind (wpAny_standAt (wpAny_bind (wpAny_of_eq (hs v) (wpAny_bind (wpAny_holding hv)))))) fun _ _ q => q)
  have F1 := hF.stepP x
  have D1 : DOk C env D g1 := hD.mono (h := h1) (by obtain ⟨o, e, _⟩ := hL; exact x.new _ _ e hD.g)
  have hL1 : IsL h1 D vs := let ⟨o, e, q⟩ := hL; ⟨o, x.keep _ _ hD.p e, q⟩
  have old : ∀ b ∈ wr, ∀ o, s.heap.get? b ≠ some o := fun b hb o e => by rw [(hwr b hb).1] at e; cases e
  have nw : ∀ b ∈ wr, s.heap.get? b = none ∧ g1.get? b = none ∧ ¬ WLD C.p env D b ∧ ∀ y, env.cells.lookup y ≠ some b := fun b hb => by
    have nc : ∀ y, env.cells.lookup y ≠ some b := fun y e => by
      obtain ⟨_, _, _, o, _, e', _⟩ := hF.cg y b e
      exact old b hb _ e'
    refine ⟨(hwr b hb).1, (hwr b hb).2, fun q => ?_, nc⟩
    rcases q with (q | q | ⟨_, y, q⟩) | q
    · obtain ⟨_, _, ⟨_, e', _⟩, _⟩ := S b q; exact old b hb _ e'
    · obtain ⟨o, e⟩ := hF.has; exact old b hb o (q ▸ e)
    · exact nc y q
    · obtain ⟨o, e, _⟩ := hL; exact old b hb o (q ▸ e)
  refine wpAny_bind (wpAny_runOwn ?_)
  show codeAny _ A _ _ _
  have loop : codeAny (model C.prog C.w) A (.compLoop (.ListComp elt [⟨t₁, i₁, ifs₁, 0⟩, ⟨t₂, i₂, ifs₂, 0⟩] scope pos) 1 (.ref I) (.ref D) env) (fun r s' => match r with | .ok f => wpAny (model C.prog C.w) A (Pure.pure ()) Q E s' | .error e => cameBackBy (model C.prog C.w) A env E e s') { s with heap := h1, toks := tk } := by
    refine compLoop_J (inner := do let _ ← call (.builtin "list.append") [.ref D, ← eval elt env]) (p1 := i₂.pos) rfl One.inj hl RM (hg.trans x.gg) M x.gh F1 S1 D1 hL1 (hr.mono x.gg) hz (x.weak fun _ _ _ q => .inl (isP_WL q)) nw st fun g' h' tk' vs' z F' S' hL' hr' => ?_
    exact wpAny_pure (k g' h' tk' vs' z F' S' hL' hr')
  exact compStart_d rfl loop (M.self 0 _ _ _ st loop)

theorem comp_core {elt target iter : Expr} {ifs : List Expr} {gs : List Comprehension} {scope : Scope} {pos cpos : Pos} {cl : List (Str × Addr)} {use : Option (Value → Sem Unit)} {ivs : List IV} {outs : List PyData} {inner : Addr → Addr → Sem Unit} {inn : Addr → Rho → List PyData → List PyData → List PyData → Prop}
    (hok : CompOk env scope cl) (hρ : ∀ x a, ρc.lookup x = some a → ρ.lookup x = some a ∧ (cl.lookup x).isSome = true) (hit : IterJ C n env ρ l iter target ivs l₁) (hs : ∀ x, foldedSetIterable iter env x = Pure.pure x)
    (hturn : ∀ D Cf I, compTurn (.ListComp elt (⟨target, iter, ifs, 0⟩ :: gs) scope pos) 0 (.ref I) (.ref D) (compEnvC scope cl Cf env) = (do
      standAt iter.pos
      match ← pyNext (.ref I) with
      | none => pure (.done .next)
      | some v =>
        letOwnedTupleGo target (.ref I) v
        assign target (compEnvC scope cl Cf env) v
        let mut ok := true
        for c in ifs do
          if ok then ok ← isTrue c (compEnvC scope cl Cf env) (eval c (compEnvC scope cl Cf env))
        if ok then inner D Cf
        again (.compLoop (.ListComp elt (⟨target, iter, ifs, 0⟩ :: gs) scope pos) 0 (.ref I) (.ref D) (compEnvC scope cl Cf env))))
    (hinn : ∀ D Cf ρ l out l', inn Cf ρ l out l' → InJ C n (compEnvC scope cl Cf env) D ρ l (inner D Cf) out l')
    (hl : ∀ Cf, CLoop (CStep C n (compEnvC scope cl Cf env) target ifs (inn Cf) ρc) ivs l₁ outs l₂) (hz : outs.length ≤ 5000)
    {A : Around} {s : Shared} {g : Heap} {Q : Value → Shared → Prop} {E : Value → Shared → Prop} (RM : Room n A) (hg : Le C.h₀ g) (gh : Le g s.heap) (hF : FR g C.p env ρ s.heap) (S : ST g C.p l s.heap)
    (k : ∀ g' h' tk D Cf, Stp (isP C.p) g s.heap g' h' → ST g' C.p l₂ h' → LstN outs g' (.ref D) → s.heap.get? Cf = none → g'.get? Cf = none → (∃ m, h'.Ns Cf m) → compPost (model C.prog C.w) A E use Q (.ref D) Cf (.ok .next) { s with heap := h', toks := tk }) :
    wpAny (model C.prog C.w) A (comprehension (.ListComp elt (⟨target, iter, ifs, 0⟩ :: gs) scope pos) scope env cpos (newList []) false (eval iter env) use) Q E s := by
  refine wpAny_comprehension_free (use := use) rfl hs hok.clos hok.kind hok.names (hit.run A s g _ _ RM hg gh hF S fun I fp wr P Md St g1 h1 tk M x S1 hwr st => ?_)
  refine wpAny_newObj_type (wpAny_newFunctionEnv hok.cell (by intro y hy; simp at hy) (fun h3 hns hsb => ?_) hok.kind)
  dsimp only at hns hsb ⊢
  generalize hH2 : h1.push { cls := .type "list", dict := none, data := .seq ([] : List Value).toArray } = H2 at hns hsb ⊢
  have hCs : @Eq Nat H2.objs.size (h1.objs.size + 1) := by rw [← hH2, Heap.size_push]
  have k12 : Le h1 H2 := fun b o e => hH2 ▸ Heap.get?_push_of_some _ e
  have k23 : Le H2 h3 := fun b o e => hsb.extBut b o (Nat.ne_of_lt (Heap.lt_size e)) (Heap.get?_push_of_some _ e)
  have y : Stp (fun _ => False) g1 h1 g1 h3 := Stp.keeps x.gh (k12.trans k23)
  have hDget : H2.get? h1.objs.size = some (lstO []) := hH2 ▸ Heap.get?_push_size _ rfl
  have hfr : ∀ b : Nat, h1.objs.size ≤ b → h1.get? b = none := fun b hb => fresh_none hb
  have hfs : ∀ b, h1.get? b = none → s.heap.get? b = none := fun b e => by
    cases q : s.heap.get? b with
    | none => rfl
    | some o => obtain ⟨o', e'⟩ := x.ex b o q; rw [e] at e'; cases e'
  have hDn : h1.get? h1.objs.size = none := hfr _ (Nat.le_refl _)
  have hCn : h1.get? H2.objs.size = none := hfr _ (by omega)
  have F1 := hF.stepP x
  have pn : ∀ b, h1.get? b = none → C.p ≠ some b := fun b e q => by obtain ⟨_, _, ⟨_, e', _⟩, _⟩ := S1 b q; rw [e] at e'; cases e'
  have cn : ∀ z b, cl.lookup z = some b → env.cells.lookup z = some b := fun z b e => (hok.ok.get e).1
  have cex : ∀ z b, cl.lookup z = some b → ∃ o, h1.get? b = some o := fun z b e => by obtain ⟨_, _, _, o, _, e', _⟩ := F1.cg z b (cn z b e); exact ⟨o, e'⟩
  have FC : FR g1 C.p (compEnvC scope cl H2.objs.size env) ρc h3 := by
    refine ⟨⟨_, hns, fun z a e kk => ?_⟩, fun z a e kk => ?_, none_of_le x.gh hCn, pn _ hCn, fun z c e => ?_, fun z z' c e e' => ?_⟩
    · obtain ⟨e1, e2⟩ := hρ _ _ e
      obtain ⟨c, hc⟩ := Option.isSome_iff_exists.mp e2
      have := (hok.ok.get hc).2.2
      rw [show (relabel scope env).names.lookup z = some .local from kk] at this
      cases this
    · obtain ⟨e1, e2⟩ := hρ _ _ e
      obtain ⟨c, hc⟩ := Option.isSome_iff_exists.mp e2
      obtain ⟨c', o, v, q1, q2, q3, q4⟩ := F1.cell z a e1 (fun q => by have := (hok.ok.get hc).2.1; rw [q] at this; cases this)
      have := (cn z c hc).symm.trans q1
      cases this
      exact ⟨c, o, v, hc, k23 _ _ (k12 _ _ q2), q3, q4⟩
    · obtain ⟨q1, q2, q3, o, v, q4, q5⟩ := F1.cg z c (cn z c e)
      exact ⟨q1, q2, (fun q => by rw [q] at q4; rw [show (compEnvC scope cl H2.objs.size env).locals = H2.objs.size from rfl, hCn] at q4; cases q4), o, v, k23 _ _ (k12 _ _ q4), q5⟩
    · exact F1.cu z z' c (cn z c e) (cn z' c e')
  have S3 : ST g1 C.p l₁ h3 := S1.step y fun _ _ q => q
  have DK : DOk C (compEnvC scope cl H2.objs.size env) h1.objs.size g1 := ⟨none_of_le x.gh hDn, pn _ hDn, fun q => by
    have q' : @Eq Nat h1.objs.size H2.objs.size := q
    omega, fun z c e q => by obtain ⟨o, e'⟩ := cex z c e; rw [q, hDn] at e'; cases e'⟩
  have hL3 : IsL h3 h1.objs.size [] := ⟨_, k23 _ _ hDget, _, rfl⟩
  have st3 : St 0 h3 := M.kt.frame _ _ _ st fun b _ o e => k23 _ _ (k12 _ _ e)
  have wx : ∀ b ∈ wr, ∃ o, h1.get? b = some o := fun b hb => M.ex _ _ st b hb
  have nw : ∀ b ∈ wr, s.heap.get? b = none ∧ g1.get? b = none ∧ ¬ WLD C.p (compEnvC scope cl H2.objs.size env) h1.objs.size b ∧ ∀ z, (compEnvC scope cl H2.objs.size env).cells.lookup z ≠ some b := fun b hb => by
    have nc : ∀ z, cl.lookup z ≠ some b := fun z e => by
      obtain ⟨_, _, _, o, _, e', _⟩ := hF.cg z b (cn z b e)
      rw [(hwr b hb).1] at e'; cases e'
    obtain ⟨ob, eb⟩ := wx b hb
    refine ⟨(hwr b hb).1, (hwr b hb).2, fun q => ?_, nc⟩
    rcases q with (q | q | ⟨_, z, q⟩) | q
    · obtain ⟨_, _, ⟨_, e', _⟩, _⟩ := S b q; rw [(hwr b hb).1] at e'; cases e'
    · rw [q, show (compEnvC scope cl H2.objs.size env).locals = H2.objs.size from rfl, hCn] at eb; cases eb
    · exact nc z q
    · rw [q, hDn] at eb; cases eb
  have loop : codeAny (model C.prog C.w) A (.compLoop (.ListComp elt (⟨target, iter, ifs, 0⟩ :: gs) scope pos) 0 (.ref I) (.ref h1.objs.size) (compEnvC scope cl H2.objs.size env))
      (compPost (model C.prog C.w) A E use Q (.ref h1.objs.size) H2.objs.size) { s with heap := h3, toks := tk + 0 } := by
    refine compLoop_J (M := M) (inner := inner h1.objs.size H2.objs.size) (p1 := iter.pos) (hturn _ _ _) (hinn _ _) (hl H2.objs.size) RM (hg.trans x.gg) y.gh FC S3 DK hL3 RdAll.nil (by simpa using hz)
      ((x.weak (W' := WLD C.p (compEnvC scope cl H2.objs.size env) h1.objs.size) fun _ _ _ q => .inl (isP_WL q)).trans y (fun _ _ _ q => q) fun _ _ _ q => q.elim) nw st3 fun g' h' tk' vs' z F' S' hL' hr' => ?_
    obtain ⟨oD, eD, mD, rfl⟩ := hL'
    have z' : Stp (isP C.p) g s.heap g' h' := z.weak fun b o e q => by
      rcases q with (q | q | ⟨q, _⟩) | q
      · exact q
      · rw [q, show (compEnvC scope cl H2.objs.size env).locals = H2.objs.size from rfl, hfs _ hCn] at e; cases e
      · cases q
      · rw [q, hfs _ hDn] at e; cases e
    obtain ⟨g2, z2, gg2, e2, n2⟩ := z'.freeze (hfs _ hDn) eD
    obtain ⟨as, ra⟩ := hr'.mono gg2
    have S2 : ST g2 C.p l₂ h' := fun a e => by
      obtain ⟨q1, vs, q2, q3⟩ := S' a e
      exact ⟨n2 a (fun q => DK.p (by rw [← q, e])) q1, vs, q2, q3.mono gg2⟩
    obtain ⟨m, hm, _⟩ := F'.ns
    refine k g2 h' tk' h1.objs.size H2.objs.size z2 S2 ⟨⟨_, .list e2 rfl rfl (by simpa using ra)⟩, _, e2, rfl⟩ (hfs _ hCn) (n2 _ (fun q => ?_) F'.lg) ⟨m, hm⟩
    have q' : @Eq Nat H2.objs.size h1.objs.size := q
    omega
  refine compStart_d rfl loop (M.self 0 _ _ _ st3 loop)

/-- the end of a comprehension: its variables go -/
theorem Stp.letGo {W : Addr → Prop} {g h g' h' h'' : Heap} {a : Addr} (x : Stp W g h g' h') (hn : h.get? a = none) (gn : g'.get? a = none) (k : Heap.SameBut a h' h'') : Stp W g h g' h'' := by
  have kk : ∀ b o, b ≠ a → h'.get? b = some o → h''.get? b = some o := fun b o n e => (k.2 b n).trans e
  have na : ∀ b o, h.get? b = some o → b ≠ a := fun b o e q => by rw [q, hn] at e; cases e
  refine ⟨x.gg, fun b o e => kk b o (fun q => by rw [q, gn] at e; cases e) (x.gh b o e), fun b o n e => kk b o (na b o e) (x.keep b o n e), x.new, fun b o e => ?_⟩
  obtain ⟨o', e'⟩ := x.ex b o e
  exact ⟨o', kk b o' (na b o e) e'⟩
theorem ST.letGo {p : Option Addr} {g h h' : Heap} {a : Addr} (S : ST g p l h) (hp : p ≠ some a) (k : Heap.SameBut a h h') : ST g p l h' := fun b e => by
  obtain ⟨q1, vs, ⟨o, q2, q⟩, q3⟩ := S b e
  exact ⟨q1, vs, ⟨o, (k.2 b (fun q => hp (by rw [e, q]))).trans q2, q⟩, q3⟩
theorem FR.letGo {p : Option Addr} {g h h' : Heap} {a : Addr} (F : FR g p env ρ h) (hl : env.locals ≠ a) (hc : ∀ y, env.cells.lookup y ≠ some a) (k : Heap.SameBut a h h') : FR g p env ρ h' :=
  have kk : ∀ b o, b ≠ a → h.get? b = some o → h'.get? b = some o := fun b o n e => (k.2 b n).trans e
  have cw : ∀ y c, env.cells.lookup y = some c → c ≠ a := fun y c e q => hc y (q ▸ e)
  ⟨let ⟨m, hn, q⟩ := F.ns; ⟨m, hn.at' fun o e => kk _ o hl e, q⟩, fun y b e q => let ⟨c, o, v, e1, e2, e3, e4⟩ := F.cell y b e q; ⟨c, o, v, e1, kk _ _ (cw y c e1) e2, e3, e4⟩, F.lg, F.lp,
    fun y c e => let ⟨a1, a2, a3, o, v, a4, a5⟩ := F.cg y c e; ⟨a1, a2, a3, o, v, kk _ _ (cw y c e) a4, a5⟩, F.cu⟩

theorem turn2 {elt target iter t₂ i₂ : Expr} {ifs ifs₂ : List Expr} {scope : Scope} {pos : Pos} {I D : Addr} {env : Env} :
    compTurn (.ListComp elt [⟨target, iter, ifs, 0⟩, ⟨t₂, i₂, ifs₂, 0⟩] scope pos) 0 (.ref I) (.ref D) env = (do
      standAt iter.pos
      match ← pyNext (.ref I) with
      | none => pure (.done .next)
      | some v =>
        letOwnedTupleGo target (.ref I) v
        assign target env v
        let mut ok := true
        for c in ifs do
          if ok then ok ← isTrue c env (eval c env)
        if ok then inner2 elt target iter t₂ i₂ ifs ifs₂ scope pos D env
        again (.compLoop (.ListComp elt [⟨target, iter, ifs, 0⟩, ⟨t₂, i₂, ifs₂, 0⟩] scope pos) 0 (.ref I) (.ref D) env)) := by
  simp only [inner2, LawfulMonad.bind_assoc, LawfulMonad.pure_bind]
  rfl
theorem filt {ρ : Rho} {cl : List (Str × Addr)} : ∀ x a, List.lookup x (ρ.filter fun p => (cl.lookup p.1).isSome) = some a → ρ.lookup x = some a ∧ (cl.lookup x).isSome = true := by
  intro x a
  induction ρ with
  | nil => intro e; cases e
  | cons p r ih =>
    obtain ⟨y, b⟩ := p
    intro e
    rw [List.filter_cons] at e
    rw [List.lookup_cons]
    cases q : x == y with
    | true =>
      have hxy := beq_iff_eq.mp q
      subst hxy
      cases q2 : (cl.lookup x).isSome with
      | true => simp only [q2, if_true, List.lookup_cons, q] at e; exact ⟨e, rfl⟩
      | false =>
        simp only [q2, Bool.false_eq_true, if_false] at e
        have := (ih e).2
        rw [q2] at this; cases this
    | false =>
      cases q2 : (cl.lookup y).isSome with
      | true => simp only [q2, if_true, List.lookup_cons, q] at e; exact ih e
      | false => simp only [q2, Bool.false_eq_true, if_false] at e; exact ih e
theorem EJ.comp1 {elt target iter : Expr} {ifs : List Expr} {scope : Scope} {pos : Pos} {cl : List (Str × Addr)} {ivs : List IV} {outs : List PyData}
    (hok : CompOk env scope cl) (hs : ∀ x, foldedSetIterable iter env x = Pure.pure x) (hit : IterJ C n env ρ l iter target ivs l₁)
    (hl : ∀ Cf, CLoop (CStep C n (compEnvC scope cl Cf env) target ifs (One C n (compEnvC scope cl Cf env) elt) (ρ.filter fun p => (cl.lookup p.1).isSome)) ivs l₁ outs l₂) (hz : outs.length ≤ 5000) :
    EJ C n env ρ l (.ListComp elt [⟨target, iter, ifs, 0⟩] scope pos) (.dat (.list outs)) l₂ := by
  refine ⟨?_⟩
  intro A s g Q E RM hg gh hF S k
  rw [eval_ListComp]
  refine comp_core (use := none) (inner := fun D Cf => do let _ ← PySem.call (.builtin "list.append") [.ref D, ← eval elt (compEnvC scope cl Cf env)]) hok filt hit hs (fun _ _ _ => rfl) (fun D Cf => One.inj) hl hz RM hg gh hF S fun g' h' tk D Cf x' S' hr hCf hgC hm => ?_
  obtain ⟨m, hm⟩ := hm
  exact ⟨m, hm, fun h'' hs'' => k (.ref D) g' h'' tk (x'.letGo hCf hgC hs'') (S'.letGo (fun q => by obtain ⟨_, _, ⟨_, e', _⟩, _⟩ := S Cf q; rw [hCf] at e'; cases e') hs'') hr.1⟩
theorem EJ.comp1N {elt target iter : Expr} {ifs : List Expr} {scope : Scope} {pos : Pos} {cl : List (Str × Addr)} {ivs : List IV} {outs : List PyData}
    (hok : CompOk env scope cl) (hs : ∀ x, foldedSetIterable iter env x = Pure.pure x) (hit : IterJ C n env ρ l iter target ivs l₁)
    (hl : ∀ Cf, CLoop (CStep C n (compEnvC scope cl Cf env) target ifs (One C n (compEnvC scope cl Cf env) elt) (ρ.filter fun p => (cl.lookup p.1).isSome)) ivs l₁ outs l₂) (hz : outs.length ≤ 5000) :
    EJ C n env ρ l (.ListComp elt [⟨target, iter, ifs, 0⟩] scope pos) (lstN outs) l₂ := by
  refine ⟨?_⟩
  intro A s g Q E RM hg gh hF S k
  rw [eval_ListComp]
  refine comp_core (use := none) (inner := fun D Cf => do let _ ← PySem.call (.builtin "list.append") [.ref D, ← eval elt (compEnvC scope cl Cf env)]) hok filt hit hs (fun _ _ _ => rfl) (fun D Cf => One.inj) hl hz RM hg gh hF S fun g' h' tk D Cf x' S' hr hCf hgC hm => ?_
  obtain ⟨m, hm⟩ := hm
  exact ⟨m, hm, fun h'' hs'' => k (.ref D) g' h'' tk (x'.letGo hCf hgC hs'') (S'.letGo (fun q => by obtain ⟨_, _, ⟨_, e', _⟩, _⟩ := S Cf q; rw [hCf] at e'; cases e') hs'') hr⟩
theorem EJ.comp2 {elt target iter t₂ i₂ : Expr} {ifs ifs₂ : List Expr} {scope : Scope} {pos : Pos} {cl : List (Str × Addr)} {ivs : List IV} {outs : List PyData}
    (hok : CompOk env scope cl) (hs : ∀ x, foldedSetIterable iter env x = Pure.pure x) (hs₂ : ∀ Cf x, foldedSetIterable i₂ (compEnvC scope cl Cf env) x = Pure.pure x) (hit : IterJ C n env ρ l iter target ivs l₁)
    (hl : ∀ Cf, CLoop (CStep C n (compEnvC scope cl Cf env) target ifs (Two C n (compEnvC scope cl Cf env) elt t₂ i₂ ifs₂) (ρ.filter fun p => (cl.lookup p.1).isSome)) ivs l₁ outs l₂) (hz : outs.length ≤ 5000) :
    EJ C n env ρ l (.ListComp elt [⟨target, iter, ifs, 0⟩, ⟨t₂, i₂, ifs₂, 0⟩] scope pos) (.dat (.list outs)) l₂ := by
  refine ⟨?_⟩
  intro A s g Q E RM hg gh hF S k
  rw [eval_ListComp]
  refine comp_core (use := none) (inner := fun D Cf => inner2 elt target iter t₂ i₂ ifs ifs₂ scope pos D (compEnvC scope cl Cf env)) hok filt hit hs (fun _ _ _ => turn2) (fun D Cf => Two.inj (hs₂ Cf)) hl hz RM hg gh hF S fun g' h' tk D Cf x' S' hr hCf hgC hm => ?_
  obtain ⟨m, hm⟩ := hm
  exact ⟨m, hm, fun h'' hs'' => k (.ref D) g' h'' tk (x'.letGo hCf hgC hs'') (S'.letGo (fun q => by obtain ⟨_, _, ⟨_, e', _⟩, _⟩ := S Cf q; rw [hCf] at e'; cases e') hs'') hr.1⟩

theorem comp_use {elt : Expr} {gens : List Comprehension} {scope : Scope} {spos pos py : Pos} {x : Str} (hx : StoreOk env x) (hsw : swapsWith (.ListComp elt gens scope spos) (some (.Name x py)) pos.line env = Pure.pure true) {outs : List PyData}
    {A : Around} {s : Shared} {g : Heap} {Q : Flow → Shared → Prop} {E : Value → Shared → Prop} (RM : Room n A) (hg : Le C.h₀ g) (gh : Le g s.heap) (hF : FR g C.p env ρ s.heap) (S : ST g C.p l s.heap)
    (k : ∀ f g' h' tk, Stp (WL C.p env) g s.heap g' h' → FR g' C.p env ((x, .dat (.list outs)) :: ρ) h' → ST g' C.p l₂ h' → FlR g' f .next → Q f { s with heap := h', toks := tk })
    (core : ∀ Q' : Value → Shared → Prop, (∀ g' h' tk D Cf, Stp (isP C.p) g s.heap g' h' → ST g' C.p l₂ h' → LstN outs g' (.ref D) → s.heap.get? Cf = none → g'.get? Cf = none → (∃ m, h'.Ns Cf m) →
        compPost (model C.prog C.w) A E (some (PySem.assign (.Name x py) env)) Q' (.ref D) Cf (.ok .next) { s with heap := h', toks := tk }) →
      wpAny (model C.prog C.w) A (comprehension (.ListComp elt gens scope spos) scope env (firstIterPos gens spos) (newList []) (firstAsync gens) (firstIter gens env) (some (PySem.assign (.Name x py) env))) Q' E s) :
    wpAny (model C.prog C.w) A (exec (.Assign [.Name x py] (.ListComp elt gens scope spos) pos) env) Q E s := by
  rw [exec_Assign_Name_used _ _ _ _ hsw]
  refine wpAny_bind (wpAny_standAt (wpAny_bind ?_))
  show wpAny _ A (do let _ ← comprehension (.ListComp elt gens scope spos) scope env (firstIterPos gens spos) (newList []) (firstAsync gens) (firstIter gens env) (some (PySem.assign (.Name x py) env))) _ _ s
  refine wpAny_bind (wpAny_mono (core (fun _ s' => Q .next s') fun g' h' tk D Cf x' S' hr hCf hgC hm => ?_) (fun _ s' hq => wpAny_pure (wpAny_pure hq)) fun _ _ e => e)
  obtain ⟨m, hm⟩ := hm
  have pC : C.p ≠ some Cf := fun q => by obtain ⟨_, _, ⟨_, e', _⟩, _⟩ := S Cf q; rw [hCf] at e'; cases e'
  have lC : env.locals ≠ Cf := fun q => by obtain ⟨o, e⟩ := hF.has; rw [q, hCf] at e; cases e
  have cC : ∀ y, env.cells.lookup y ≠ some Cf := fun y q => by obtain ⟨_, _, _, o, _, e', _⟩ := hF.cg y Cf q; rw [hCf] at e'; cases e'
  show wpAny _ A (PySem.assign (.Name x py) env (.ref D)) _ _ _
  refine wpAny_assign_Name (store_J (s := { s with heap := h', toks := tk }) (a := .dat (.list outs)) hx x'.gh (hF.stepP x') S' hr.1 fun h2 tk2 y F2 S2 => ⟨m, hm.at' fun o e => y.keep _ o (fun q => ?_) e, fun h'' hs'' => ?_⟩)
  · rcases q with q | q | ⟨_, z, q⟩
    · exact pC q
    · exact lC q.symm
    · exact cC z q
  · exact k .next g' h'' _ ((x'.up.trans' y).letGo hCf hgC hs'') (F2.letGo lC cC hs'') (S2.letGo pC hs'') trivial
theorem SJ.comp1 {elt target iter : Expr} {ifs : List Expr} {scope : Scope} {spos pos py : Pos} {x : Str} {cl : List (Str × Addr)} {ivs : List IV} {outs : List PyData}
    (hx : StoreOk env x) (hsw : swapsWith (.ListComp elt [⟨target, iter, ifs, 0⟩] scope spos) (some (.Name x py)) pos.line env = Pure.pure true)
    (hok : CompOk env scope cl) (hs : ∀ x, foldedSetIterable iter env x = Pure.pure x) (hit : IterJ C n env ρ l iter target ivs l₁)
    (hl : ∀ Cf, CLoop (CStep C n (compEnvC scope cl Cf env) target ifs (One C n (compEnvC scope cl Cf env) elt) (ρ.filter fun p => (cl.lookup p.1).isSome)) ivs l₁ outs l₂) (hz : outs.length ≤ 5000) :
    SJ C n env ρ l (.Assign [.Name x py] (.ListComp elt [⟨target, iter, ifs, 0⟩] scope spos) pos) ((x, .dat (.list outs)) :: ρ) l₂ .next := by
  refine ⟨?_⟩
  intro A s g Q E RM hg gh hF S k
  exact comp_use hx hsw RM hg gh hF S k fun Q' k' => comp_core (use := some (PySem.assign (.Name x py) env)) (inner := fun D Cf => do let _ ← PySem.call (.builtin "list.append") [.ref D, ← eval elt (compEnvC scope cl Cf env)]) hok filt hit hs (fun _ _ _ => rfl) (fun D Cf => One.inj) hl hz RM hg gh hF S k'
theorem SJ.comp2 {elt target iter t₂ i₂ : Expr} {ifs ifs₂ : List Expr} {scope : Scope} {spos pos py : Pos} {x : Str} {cl : List (Str × Addr)} {ivs : List IV} {outs : List PyData}
    (hx : StoreOk env x) (hsw : swapsWith (.ListComp elt [⟨target, iter, ifs, 0⟩, ⟨t₂, i₂, ifs₂, 0⟩] scope spos) (some (.Name x py)) pos.line env = Pure.pure true)
    (hok : CompOk env scope cl) (hs : ∀ x, foldedSetIterable iter env x = Pure.pure x) (hs₂ : ∀ Cf x, foldedSetIterable i₂ (compEnvC scope cl Cf env) x = Pure.pure x) (hit : IterJ C n env ρ l iter target ivs l₁)
    (hl : ∀ Cf, CLoop (CStep C n (compEnvC scope cl Cf env) target ifs (Two C n (compEnvC scope cl Cf env) elt t₂ i₂ ifs₂) (ρ.filter fun p => (cl.lookup p.1).isSome)) ivs l₁ outs l₂) (hz : outs.length ≤ 5000) :
    SJ C n env ρ l (.Assign [.Name x py] (.ListComp elt [⟨target, iter, ifs, 0⟩, ⟨t₂, i₂, ifs₂, 0⟩] scope spos) pos) ((x, .dat (.list outs)) :: ρ) l₂ .next := by
  refine ⟨?_⟩
  intro A s g Q E RM hg gh hF S k
  exact comp_use hx hsw RM hg gh hF S k fun Q' k' => comp_core (use := some (PySem.assign (.Name x py) env)) (inner := fun D Cf => inner2 elt target iter t₂ i₂ ifs ifs₂ scope spos D (compEnvC scope cl Cf env)) hok filt hit hs (fun _ _ _ => turn2) (fun D Cf => Two.inj (hs₂ Cf)) hl hz RM hg gh hF S k'
theorem sub_cons {y : Str} {a : AV} (h : ρ.lookup y = none) : ∀ x b, ρ.lookup x = some b → List.lookup x ((y, a) :: ρ) = some b := fun x b e => by
  rw [List.lookup_cons]
  cases q : x == y with
  | true => rw [beq_iff_eq.mp q, h] at e; cases e
  | false => exact e
theorem CStep.name1 {x : Str} {px : Pos} {elt : Expr} {a : AV} {d : PyData} (hx : StoreOk env x) (hn : ρ.lookup x = none) (he : EJ C n env ((x, a) :: ρ) l elt (.dat d) l') : CStep C n env (.Name x px) [] (One C n env elt) ρ (.av a) l [d] l' :=
  ⟨_, l, true, AsJ.name hx, sub_cons hn, TsJ.nil, d, rfl, he⟩
theorem CStep.test1 {x : Str} {px : Pos} {elt c : Expr} {a : AV} {d : PyData} {ok : Bool} (hx : StoreOk env x) (hn : ρ.lookup x = none) (ht : BJ C n env ((x, a) :: ρ) l c ok l₁) (he : ok = true → EJ C n env ((x, a) :: ρ) l₁ elt (.dat d) l') (hl : ok = false → l' = l₁) :
    CStep C n env (.Name x px) [c] (One C n env elt) ρ (.av a) l (if ok then [d] else []) l' := by
  refine ⟨_, l₁, ok, AsJ.name hx, sub_cons hn, TsJ.one ht, ?_⟩
  cases ok with
  | true => exact ⟨d, rfl, he rfl⟩
  | false => exact ⟨rfl, hl rfl⟩

end
end Mine
namespace Mine
section
variable {C : Cx} {n : Nat} {l l' : List PyData} {env : Env} {ρ : Rho}
/-- the functions of the law, by name -/
inductive GN : Str → Value → Prop
  | a : GN (Str.ofString "inner_way") (.ref 71)
  | b : GN (Str.ofString "related") (.ref 78)
  | c : GN (Str.ofString "_law_pool") (.ref 85)
  | d : GN (Str.ofString "_law_take") (.ref 92)
  | e : GN (Str.ofString "_law_one") (.ref 99)
  | f : GN (Str.ofString "_law_type") (.ref 106)
  | g : GN (Str.ofString "_law_other") (.ref 111)
  | h : GN (Str.ofString "_law_places") (.ref 116)
  | i : GN (Str.ofString "_law_within") (.ref 123)
  | j : GN (Str.ofString "_law_due") (.ref 128)
  | k : GN (Str.ofString "_law_reached") (.ref 133)
inductive BN : Str → Value → Prop
  | a : BN (Str.ofString "int") (.type "int")
  | b : BN (Str.ofString "len") (.builtin "len")
  | c : BN (Str.ofString "max") (.builtin "max")
  | d : BN (Str.ofString "min") (.builtin "min")
  | e : BN (Str.ofString "tuple") (.type "tuple")
  | f : BN (Str.ofString "range") (.type "range")
  | g : BN (Str.ofString "enumerate") (.type "enumerate")
  | h : BN (Str.ofString "zip") (.type "zip")
  | i : BN (Str.ofString "sorted") (.builtin "sorted")
  | j : BN (Str.ofString "dict") (.type "dict")
inductive FN : Addr → Prop
  | a : FN 71
  | b : FN 78
  | c : FN 85
  | d : FN 92
  | e : FN 99
  | f : FN 106
  | g : FN 111
  | h : FN 116
  | i : FN 123
  | j : FN 128
  | k : FN 133
theorem FN.callee {a : Addr} (B : Bs C) (h : FN a) : Callee C (.ref a) := by cases h <;> exact .f B rfl rfl
theorem GN.fits {w : World} {x : Str} {v : Value} (h : GN x v) : nsIn (KK w) mainGlobals x = some (some v) := by cases h <;> rfl
theorem GN.nd {x : Str} {v : Value} (h : GN x v) : (x == ("__debug__" : Str)) = false := by cases h <;> rfl
theorem BN.boot {x : Str} {v : Value} (h : BN x v) : bootBuiltins x = some v ∧ x ≠ "__name__" ∧ (x == ("__debug__" : Str)) = false := by cases h <;> exact ⟨by boot_fast, by decide, rfl⟩
theorem BN.fits {w : World} {x : Str} {v : Value} (h : BN x v) : nsIn (KK w) mainGlobals x = some none := by cases h <;> rfl
theorem EJ.gn {x : Str} {v : Value} {pos : Pos} (B : Bs C) (h : GN x v) (hx : env.kindOf x = some .globalImplicit) (hk : env.scope.kind = .function) (hg' : env.globals = mainGlobals) : EJ C n env ρ l (.Name x pos) (.val v) l := EJ.glob B (GN.fits (w := C.w) h) hx hk hg' h.nd
theorem EJ.bn {x : Str} {v : Value} {pos : Pos} (B : Bs C) (h : BN x v) (hx : env.kindOf x = some .globalImplicit) (hk : env.scope.kind = .function) (hg' : env.globals = mainGlobals) (hb : env.builtins = builtinsNs) : EJ C n env ρ l (.Name x pos) (.val v) l :=
  EJ.blt B (BN.fits (w := C.w) h) h.boot.1 h.boot.2.1 hx hk hg' hb h.boot.2.2
theorem len_succ {α : Type} {vs : List α} {n : Nat} (h : vs.length = n + 1) : ∃ a r, vs = a :: r ∧ r.length = n := by
  cases vs with
  | nil => cases h
  | cons a r => exact ⟨a, r, rfl, Nat.succ.inj h⟩
theorem len1 {α : Type} {vs : List α} (h : vs.length = 1) : ∃ a, vs = [a] := by
  obtain ⟨a, r, rfl, k⟩ := len_succ (n := 0) h
  cases r with
  | nil => exact ⟨a, rfl⟩
  | cons b r => cases k
theorem len2 {α : Type} {vs : List α} (h : vs.length = 2) : ∃ a b, vs = [a, b] := by
  obtain ⟨a, r, rfl, k⟩ := len_succ (n := 1) h
  obtain ⟨b, rfl⟩ := len1 k
  exact ⟨a, b, rfl⟩
theorem len3 {α : Type} {vs : List α} (h : vs.length = 3) : ∃ a b c, vs = [a, b, c] := by
  obtain ⟨a, r, rfl, k⟩ := len_succ (n := 2) h
  obtain ⟨b, c, rfl⟩ := len2 k
  exact ⟨a, b, c, rfl⟩
theorem len4 {α : Type} {vs : List α} (h : vs.length = 4) : ∃ a b c d, vs = [a, b, c, d] := by
  obtain ⟨a, r, rfl, k⟩ := len_succ (n := 3) h
  obtain ⟨b, c, d, rfl⟩ := len3 k
  exact ⟨a, b, c, d, rfl⟩
end
theorem mulOk {i j : Int} (h0 : 0 ≤ i) (h1 : i < 2 ^ 62) : IntMulOk i j := IntMulOk.of_left (intBits_le_64 (by omega) (by omega))
theorem ex_1 {a n : Nat} (h : a + 2 ≤ n) : ∃ m, n = m + 1 := ⟨n - 1, by omega⟩
theorem ex_2 {a n : Nat} (h : a + 2 ≤ n) : ∃ m, n = m + 2 := ⟨n - 2, by omega⟩
theorem ex_4 {a n : Nat} (h : a + 4 ≤ n) : ∃ m, n = m + 4 := ⟨n - 4, by omega⟩
theorem h_s {a n : Nat} (h : a + 1 + 2 ≤ n + 2) : a + 2 ≤ n + 1 := by omega
theorem h_t {a n : Nat} (h : a + 1 + 2 ≤ n + 1) : a + 2 ≤ n := by omega
theorem h_a {a b n : Nat} (h : max a b + 1 + 2 ≤ n + 2) : a + 2 ≤ n + 1 := by omega
theorem h_b {a b n : Nat} (h : max a b + 1 + 2 ≤ n + 2) : b + 2 ≤ n + 1 := by omega
theorem h_s0 {a n : Nat} (h : a + 1 ≤ n) : a ≤ n := by omega
theorem h_a0 {a b n : Nat} (h : max a b + 1 ≤ n) : a ≤ n := by omega
theorem h_b0 {a b n : Nat} (h : max a b + 1 ≤ n) : b ≤ n := by omega
theorem hv_s {a n : Nat} (h : 2 * (a + 1) + 4 ≤ n + 4) : 2 * a + 4 ≤ n + 3 := by omega
theorem hv_a {a b n : Nat} (h : 2 * (max a b + 1) + 4 ≤ n + 4) : 2 * a + 4 ≤ n + 3 := by omega
theorem hv_b {a b n : Nat} (h : 2 * (max a b + 1) + 4 ≤ n + 4) : 2 * b + 4 ≤ n + 3 := by omega
theorem hw_a {a b n : Nat} (h : 2 * (max a b + 1) + 4 ≤ n + 4) : 2 * a + 4 ≤ n + 2 := by omega
theorem hw_b {a b n : Nat} (h : 2 * (max a b + 1) + 4 ≤ n + 4) : 2 * b + 4 ≤ n + 2 := by omega
theorem len_2 {x k : Nat} (h : x + 1 ≤ 2 ^ (k + 1)) (hk : k ≤ 10) : x ≤ 2048 := by
  have y : 2 ^ (k + 1) ≤ 2 ^ 11 := Nat.pow_le_pow_right (by decide) (by omega)
  omega
-- NZMAC BEGIN
/-- calls that are known -/
local macro_rules | `(tactic| walk_at "nzc") => `(tactic| first
  | (with_reducible first | exact CJ.int | exact CJ.intb | exact CJ.max | exact CJ.min)
  | ((with_reducible first | apply CJ.lenL | apply CJ.lenT); (first | assumption | decide | omega))
  | ((with_reducible apply_assumption) <;> first | assumption | omega)
  | ((with_reducible apply CJ.tupL); exact Nat.le_of_ble_eq_true rfl))
local macro_rules | `(tactic| walk_at "nzg") => `(tactic| first
  | ((with_reducible apply EJ.gn) <;> first | assumption | exact rfl | (with_reducible constructor))
  | ((with_reducible apply EJ.bn) <;> first | assumption | exact rfl | (with_reducible constructor)))
local macro_rules | `(tactic| walk_at "nzk") => `(tactic| first
  | (with_reducible first | exact Callee.b _ | exact Callee.t _)
  | ((with_reducible apply FN.callee) <;> first | assumption | (with_reducible constructor)))
local macro_rules | `(tactic| walk_at "nzn") => `(tactic| first | assumption | decide | omega)
local macro_rules | `(tactic| walk_at "nzo") => `(tactic| first
  | (with_reducible first | exact OJ2.add | exact OJ2.sub | exact OJ2.lt | exact OJ2.gt | exact OJ2.ge | exact OJ2.eqi | exact OJ2.nei | exact OJ2.eqs | exact OJ2.nes | exact OJ1.neg)
  | ((with_reducible apply OJ2.mul); (first | (with_reducible assumption) | exact mulOk (by omega) (by omega)))
  | ((with_reducible first | apply OJ2.mod | apply OJ2.div) <;> walk_at "nzn")
  | ((with_reducible first | apply OJ2.in2 | apply OJ2.int2) <;> kernel_rfl)
  | ((with_reducible first | apply OJ2.catT | apply OJ2.catL) <;> first | exact Nat.le_of_ble_eq_true rfl | decide | assumption | omega)
  | ((with_reducible first | apply OJ2.itemM | apply OJ2.itemT | apply OJ2.itemL) <;> first | assumption | exact rfl | decide | exact of_decide_eq_true rfl | (intro _ _; with_unfolding_all exact rfl)))
local macro_rules | `(tactic| walk_at "nz") => `(tactic| first
  | (with_reducible first | exact EJ.cint | exact EJ.cstr | exact EJ.cbool | exact EsJ.nil)
  | ((with_reducible apply EJ.name_l) <;> exact rfl)
  | ((with_reducible apply EJ.name_c) <;> exact rfl)
  | ((with_reducible apply EJ.name_f) <;> exact rfl)
  | ((with_reducible apply EsJ.cons rfl) <;> walk_at "nz")
  | ((with_reducible apply EJ.tail2) <;> first | (intro _ _; with_unfolding_all exact rfl) | exact Nat.le_of_ble_eq_true rfl | walk_at "nz")
  | ((with_reducible first | apply EJ.bin | apply EJ.una | apply EJ.cmp | apply EJ.sub_ | apply BJ.cmp | apply EJ.tuple | apply EJ.list) <;> walk_at "nz")
  | ((with_reducible apply BJ.plain); (focus walk_at "nz"); (focus exact rfl); exact rfl)
  | ((with_reducible apply EJ.call) <;> walk_at "nz")
  | ((with_reducible apply EJ.comp1); (focus walk_at "nzcomp"); (focus intro _; exact rfl); (focus walk_at "nzi"); (focus intro _; walk_at "nzl"); exact Nat.le_of_ble_eq_true rfl)
  | ((with_reducible apply EJ.ite_t); (focus walk_at "nzt"); walk_at "nz")
  | ((with_reducible apply EJ.ite_f); (focus walk_at "nzt"); walk_at "nz")
  | ((with_reducible show TJ _ _ _ _ (eval (Expr.Name _ _) _) _ _); walk_at "nzg")
  | walk_at "nzk"
  | walk_at "nzo"
  | walk_at "nzc"
  | exact rfl
  | exact Nat.le_of_ble_eq_true rfl
  | with_unfolding_all exact rfl
  | assumption
  | decide)

/-- a test whose answer is given -/
local macro_rules | `(tactic| walk_at "nzt") => `(tactic| ((with_reducible apply BJ.to); (focus walk_at "nz"); (focus first | exact rfl | exact decide_eq_true (by omega) | exact decide_eq_false (by omega) | assumption)))
/-- an if not taken, and with no else -/
local macro_rules | `(tactic| walk_at "nzf") => `(tactic| ((with_reducible apply BsJ.cons); (focus (with_reducible apply SJ.ite_f); (focus walk_at "nzt"); exact BsJ.nil)))
/-- an if taken that returns -/
local macro_rules | `(tactic| walk_at "nzy") => `(tactic| ((with_reducible apply BsJ.ret); (with_reducible apply SJ.ite_t); (focus walk_at "nzt")))
/-- an assignment to a name -/
local macro_rules | `(tactic| walk_at "nza") => `(tactic| ((with_reducible apply BsJ.cons); (focus (with_reducible apply SJ.assign); (focus walk_at "nz"); (focus first | exact ⟨rfl, .inl rfl⟩ | exact ⟨rfl, .inr ⟨rfl, rfl, rfl⟩⟩); exact rfl)))
local macro_rules | `(tactic| walk_at "nzx") => `(tactic| ((with_reducible apply BsJ.ret); (with_reducible apply SJ.ret); (with_reducible apply EJ.to); (focus walk_at "nz")))
/-- the kinds of a def's parameters -/
local macro_rules | `(tactic| walk_at "nzb") => `(tactic| first | exact (fun _ h => absurd h List.not_mem_nil) | (refine List.forall_mem_cons.mpr ⟨?_, ?_⟩; (focus first | exact .inl rfl | exact .inr ⟨rfl, rfl⟩); walk_at "nzb"))
/-- what a comprehension captures -/
local macro_rules | `(tactic| walk_at "nzcomp") => `(tactic| exact ⟨rfl, rfl, by decide, by decide, by (repeat' first | exact trivial | exact ⟨rfl, rfl, rfl⟩ | constructor)⟩)
/-- an iterator over a list or a tuple -/
local macro_rules | `(tactic| walk_at "nzi") => `(tactic| first | ((with_reducible apply IterJ.tuple); walk_at "nz") | ((with_reducible apply IterJ.list); walk_at "nz"))
/-- the turns of a comprehension over a list of known length -/
local macro_rules | `(tactic| walk_at "nzl") => `(tactic| first | exact CLoop.nil | (apply CLoop.cons; (focus apply CStep.name1; (focus exact ⟨rfl, .inl rfl⟩); (focus exact rfl); walk_at "nz"); walk_at "nzl"))
-- NZMAC END
section
variable {C : Cx} {n : Nat}
/-! the source of draws -/
abbrev Src := Int × Int
abbrev srcL (s : Src) : List PyData := [.int s.1, .int s.2]
def SrcOk (s : Src) : Prop := 0 ≤ s.1 ∧ 0 ≤ s.2 ∧ s.2 < 2147483648
def mixS (s : Src) : Int := (s.2 * 39373 + 7).fmod 2147483647
def takeV (s : Src) (t : Int) : Int := if 0 < s.1 then s.1.fmod t else (((mixS s * mixS s).fmod 2147483629).fdiv 32).fmod t
def takeS (s : Src) (t : Int) : Src := if 0 < s.1 then (s.1.fdiv t, s.2) else (s.1, mixS s)
theorem takeV_ok {s : Src} {t : Int} (ht : 0 < t) : 0 ≤ takeV s t ∧ takeV s t < t := by
  unfold takeV
  split <;> exact ⟨Int.fmod_nonneg_of_pos _ ht, Int.fmod_lt_of_pos _ ht⟩
theorem takeS_ok {s : Src} {t : Int} (h : SrcOk s) (ht : 0 < t) : SrcOk (takeS s t) := by
  obtain ⟨h1, h2, h3⟩ := h
  unfold takeS
  split
  · exact ⟨Int.fdiv_nonneg h1 (Int.le_of_lt ht), h2, h3⟩
  · have a := Int.fmod_nonneg_of_pos (s.2 * 39373 + 7) (b := 2147483647) (by decide)
    have b := Int.fmod_lt_of_pos (s.2 * 39373 + 7) (b := 2147483647) (by decide)
    exact ⟨h1, a, by unfold mixS; omega⟩


theorem take_J (B : Bs C) {a : Addr} (hp : C.p = some a) {s : Src} (hs : SrcOk s) {t : Int} (h0 : 0 < t) (h7 : t < 1000) :
    CJ C (n + 1) (.ref 92) [.val (.ref a), .dat (.int t)] (srcL s) (.dat (.int (takeV s t))) (srcL (takeS s t)) := by
  obtain ⟨x, y⟩ := s
  obtain ⟨hx, hy, hy'⟩ := hs
  simp only at hx hy hy'
  refine CJ.body (fl := .ret _) B rfl rfl (binds_plain (xs := [Str.ofString "source", Str.ofString "top"]) fun vs hl => ?_) (Nat.le_refl _) (by decide) (fun k => by intro z hz; left; revert z; decide) rfl (fun L => ?_) rfl rfl rfl
  · obtain ⟨_, _, rfl⟩ := len2 hl; rfl
  by_cases hc : 0 < x
  · (with_reducible apply BsJ.ret)
    (with_reducible apply SJ.ite (c := true))
    · (with_reducible apply BJ.to)
      · walk_at "nz"
      · exact decide_eq_true hc
    · rw [if_pos rfl]
      (with_reducible apply BsJ.cons)
      · (with_reducible apply SJ.assign)
        · walk_at "nz"
        · exact ⟨rfl, .inl rfl⟩
        · rfl
      · (with_reducible apply BsJ.cons)
        · (with_reducible apply SJ.setM hp) <;> walk_at "nz"
        · (with_reducible apply BsJ.ret)
          (with_reducible apply SJ.ret)
          (with_reducible apply EJ.to)
          · walk_at "nz"
          · simp [takeV, hc]
          · simp [takeS, hc, srcL]
  · have hx0 : x = 0 := by omega
    subst hx0
    have e0 : (0 : Int) < 0 ↔ False := by simp
    have m0 : 0 ≤ mixS (0, y) := Int.fmod_nonneg_of_pos _ (by decide)
    have m1 : mixS (0, y) < 2147483647 := Int.fmod_lt_of_pos _ (by decide)
    (with_reducible apply BsJ.cons (ρ₁ := [_, _]))
    · (with_reducible apply SJ.ite (c := false))
      · (with_reducible apply BJ.to)
        · walk_at "nz"
        · rfl
      · rw [if_neg (by decide)]
        exact BsJ.nil
    · (with_reducible apply BsJ.cons)
      · (with_reducible apply SJ.setM hp) <;> walk_at "nz"
      · (with_reducible apply BsJ.ret)
        (with_reducible apply SJ.ret)
        (with_reducible apply EJ.to)
        · have h2 : IntMulOk ((y * 39373 + 7).fmod 2147483647) ((y * 39373 + 7).fmod 2147483647) := mulOk m0 (by show mixS (0, y) < _; omega)
          walk_at "nz"
        · simp [takeV, mixS]
        · simp [takeS, mixS, srcL]
end
local macro_rules | `(tactic| walk_at "nzc") => `(tactic| ((with_reducible apply take_J) <;> first | assumption | omega))
section
/-! the types that the law draws -/
inductive Ty where
  | int
  | ref (r : Int) (m : Bool) (t : Ty)
  | box (t : Ty)
  | arr (t : Ty)
  | tup (a b : Ty)
  | adt (q : Bool) (r : Int) (a b : Ty)
abbrev pS (x : String) : PyData := .str (Str.ofString x)
def Ty.pn (q : Bool) : PyData := if q then pS "Q" else pS "P"
def Ty.dat : Ty → PyData
  | .int => .tuple [pS "int", pS "u8"]
  | .ref r m t => .tuple [pS "ref", .int r, .bool m, t.dat]
  | .box t => .tuple [pS "box", t.dat]
  | .arr t => .tuple [pS "array", t.dat, .int 2]
  | .tup a b => .tuple [pS "tuple", .tuple [a.dat, b.dat]]
  | .adt q r a b => .tuple [pS "adt", Ty.pn q, .tuple [.int r], .tuple [a.dat, b.dat]]
def genT : Nat → Src → Ty × Src
  | 0, s => (.int, s)
  | d + 1, s =>
    if takeV s 7 = 0 then (.int, takeS s 7)
    else if takeV s 7 < 3 then (.ref (1 + takeV (takeS s 7) 6) (takeV s 7 == 1) (genT d (takeS (takeS s 7) 6)).1, (genT d (takeS (takeS s 7) 6)).2)
    else if takeV s 7 = 3 then (.box (genT d (takeS s 7)).1, (genT d (takeS s 7)).2)
    else if takeV s 7 = 4 then (.tup (genT d (takeS s 7)).1 (.arr (genT d (genT d (takeS s 7)).2).1), (genT d (genT d (takeS s 7)).2).2)
    else (.adt (takeV s 7 == 6) (1 + takeV (genT d (genT d (takeS s 7)).2).2 6) (genT d (takeS s 7)).1 (genT d (genT d (takeS s 7)).2).1, takeS (genT d (genT d (takeS s 7)).2).2 6)
theorem genT_ok : ∀ (d : Nat) {s : Src}, SrcOk s → SrcOk (genT d s).2
  | 0, s, h => h
  | d + 1, s, h => by
    have h1 : SrcOk (takeS s 7) := takeS_ok h (by decide)
    have h2 : SrcOk (takeS (takeS s 7) 6) := takeS_ok h1 (by decide)
    unfold genT
    split
    · exact h1
    · split
      · exact genT_ok d h2
      · split
        · exact genT_ok d h1
        · split
          · exact genT_ok d (genT_ok d h1)
          · exact takeS_ok (genT_ok d (genT_ok d h1)) (by decide)

section
variable {C : Cx} {n : Nat}
theorem one_J (B : Bs C) {a : Addr} (hp : C.p = some a) {s : Src} (hs : SrcOk s) {ds : List PyData} {d : PyData} (h0 : 0 < ds.length) (h7 : ds.length < 1000) (hd : ds[(takeV s ds.length).toNat]? = some d) :
    CJ C (n + 2) (.ref 99) [.val (.ref a), .dat (.list ds)] (srcL s) (.dat d) (srcL (takeS s ds.length)) := by
  refine CJ.body (fl := .ret _) B rfl rfl (binds_plain (xs := [Str.ofString "source", Str.ofString "things"]) fun vs hl => ?_) (Nat.le_refl _) (by decide) (fun k => by intro z hz; left; revert z; decide) rfl (fun L => ?_) rfl rfl rfl
  · obtain ⟨_, _, rfl⟩ := len2 hl; rfl
  have ht := takeV_ok (s := s) (t := ds.length) (by omega)
  (with_reducible apply BsJ.ret)
  (with_reducible apply SJ.ret)
  (with_reducible apply EJ.sub_)
  · walk_at "nz"
  · walk_at "nz"
  · (with_reducible apply OJ2.itemL)
    · exact ht.1
    · exact hd
    · omega
    · intro _ _; with_unfolding_all exact rfl

theorem type_J (B : Bs C) {a : Addr} (hp : C.p = some a) : ∀ (d n : Nat) (s : Src) (i : Int), SrcOk s → d + 2 ≤ n → i = d → CJ C n (.ref 106) [.val (.ref a), .dat (.int i)] (srcL s) (.dat (genT d s).1.dat) (srcL (genT d s).2) := by
  intro d
  induction d with
  | zero =>
    intro n s i hs hn hi
    subst hi
    obtain ⟨n, rfl⟩ : ∃ m, n = m + 2 := ex_2 hn
    refine CJ.body (fl := .ret _) B rfl rfl (binds_plain (xs := [Str.ofString "source", Str.ofString "deep"]) fun vs hl => ?_) (Nat.le_refl _) (by decide) (fun k => by intro z hz; left; revert z; decide) rfl (fun L => ?_) rfl rfl rfl
    · obtain ⟨_, _, rfl⟩ := len2 hl; rfl
    (with_reducible apply BsJ.cons)
    · (with_reducible apply SJ.assign)
      · (with_reducible apply EJ.ite_f)
        · walk_at "nzt"
        · walk_at "nz"
      · exact ⟨rfl, .inl rfl⟩
      · rfl
    · walk_at "nzy"
      walk_at "nzx"
      · rfl
      · rfl
  | succ d ih =>
    intro n s i hs hn hi
    subst hi
    obtain ⟨n, rfl⟩ : ∃ m, n = m + 2 := ex_2 hn
    have ih' : ∀ (s : Src) (i : Int), SrcOk s → i = d → CJ C (n + 1) (.ref 106) [.val (.ref a), .dat (.int i)] (srcL s) (.dat (genT d s).1.dat) (srcL (genT d s).2) := fun s i hs hi => ih (n + 1) s i hs (by omega) hi
    refine CJ.body (fl := .ret _) B rfl rfl (binds_plain (xs := [Str.ofString "source", Str.ofString "deep"]) fun vs hl => ?_) (Nat.le_refl _) (by decide) (fun k => by intro z hz; left; revert z; decide) rfl (fun L => ?_) rfl rfl rfl
    · obtain ⟨_, _, rfl⟩ := len2 hl; rfl
    have ht := takeV_ok (s := s) (t := 7) (by decide)
    have h1 : SrcOk (takeS s 7) := takeS_ok hs (by decide)
    have h2 : SrcOk (takeS (takeS s 7) 6) := takeS_ok h1 (by decide)
    have h3 : SrcOk (genT d (takeS s 7)).2 := genT_ok d h1
    have h4 : SrcOk (genT d (genT d (takeS s 7)).2).2 := genT_ok d h3
    clear ih
    obtain hw | hw | hw | hw | hw | hw | hw : takeV s 7 = 0 ∨ takeV s 7 = 1 ∨ takeV s 7 = 2 ∨ takeV s 7 = 3 ∨ takeV s 7 = 4 ∨ takeV s 7 = 5 ∨ takeV s 7 = 6 := by omega
    all_goals
      (with_reducible apply BsJ.cons)
      · (with_reducible apply SJ.assign)
        · (with_reducible apply EJ.ite_t)
          · walk_at "nzt"
          · (with_reducible apply EJ.to)
            · walk_at "nz"
            · rw [hw]
            · rfl
        · exact ⟨rfl, .inl rfl⟩
        · rfl
    · walk_at "nzy"
      walk_at "nzx"
      · simp [genT, hw, Ty.dat]
      · simp [genT, hw]
    · walk_at "nzf"
      walk_at "nzy"
      walk_at "nzx"
      · simp [genT, hw, Ty.dat]
      · simp [genT, hw]
    · walk_at "nzf"
      walk_at "nzy"
      walk_at "nzx"
      · simp [genT, hw, Ty.dat]
      · simp [genT, hw]
    · walk_at "nzf"
      walk_at "nzf"
      walk_at "nzy"
      walk_at "nzx"
      · simp [genT, hw, Ty.dat]
      · simp [genT, hw]
    · walk_at "nzf"
      walk_at "nzf"
      walk_at "nzf"
      walk_at "nzy"
      walk_at "nzx"
      · simp [genT, hw, Ty.dat]
      · simp [genT, hw]
    · walk_at "nzf"
      walk_at "nzf"
      walk_at "nzf"
      walk_at "nzf"
      walk_at "nza"
      walk_at "nzx"
      · simp [genT, hw, Ty.dat, Ty.pn]
      · simp [genT, hw]
    · walk_at "nzf"
      walk_at "nzf"
      walk_at "nzf"
      walk_at "nzf"
      walk_at "nza"
      walk_at "nzx"
      · simp [genT, hw, Ty.dat, Ty.pn]
      · simp [genT, hw]
end
end
section
section
variable {C : Cx} {n : Nat} {env : Env} {ρ : Rho} {l l' l₁ : List PyData}
def othT : Ty → Src → Ty × Src
  | .int, s => (.int, s)
  | .ref r m t, s =>
    if m then (.ref (1 + takeV (takeS s 3) 6) (decide (0 < takeV s 3)) (othT t (takeS (takeS s 3) 6)).1, (othT t (takeS (takeS s 3) 6)).2)
    else (.ref (1 + takeV s 6) false (othT t (takeS s 6)).1, (othT t (takeS s 6)).2)
  | .box t, s => (.box (othT t s).1, (othT t s).2)
  | .arr t, s => (.arr (othT t s).1, (othT t s).2)
  | .tup a b, s => (.tup (othT a s).1 (othT b (othT a s).2).1, (othT b (othT a s).2).2)
  | .adt q r a b, s => (.adt q (1 + takeV (othT b (othT a s).2).2 6) (othT a s).1 (othT b (othT a s).2).1, takeS (othT b (othT a s).2).2 6)
theorem othT_ok : ∀ (t : Ty) {s : Src}, SrcOk s → SrcOk (othT t s).2
  | .int, s, h => h
  | .ref r m t, s, h => by
    unfold othT
    split
    · exact othT_ok t (takeS_ok (takeS_ok h (by decide)) (by decide))
    · exact othT_ok t (takeS_ok h (by decide))
  | .box t, s, h => othT_ok t h
  | .arr t, s, h => othT_ok t h
  | .tup a b, s, h => othT_ok b (othT_ok a h)
  | .adt q r a b, s, h => takeS_ok (othT_ok b (othT_ok a h)) (by decide)
def Ty.ht : Ty → Nat
  | .int => 0
  | .ref _ _ t => t.ht + 1
  | .box t => t.ht + 1
  | .arr t => t.ht + 1
  | .tup a b => max a.ht b.ht + 1
  | .adt _ _ a b => max a.ht b.ht + 1

theorem other_J (B : Bs C) {a : Addr} (hp : C.p = some a) : ∀ (t : Ty) (n : Nat) (s : Src), SrcOk s → t.ht + 2 ≤ n → CJ C n (.ref 111) [.val (.ref a), .dat t.dat] (srcL s) (.dat (othT t s).1.dat) (srcL (othT t s).2) := by
  intro t
  induction t with
  | int =>
    intro n s hs hn
    obtain ⟨n, rfl⟩ : ∃ m, n = m + 1 := ex_1 hn
    simp only [Ty.dat]
    refine CJ.body (fl := .ret _) B rfl rfl (binds_plain (xs := [Str.ofString "source", Str.ofString "told"]) fun vs hl => ?_) (Nat.le_refl _) (by decide) (fun k => by walk_at "nzb") rfl (fun L => ?_) rfl rfl rfl
    · obtain ⟨_, _, rfl⟩ := len2 hl; rfl
    walk_at "nza"
    walk_at "nzf"
    walk_at "nzf"
    walk_at "nzf"
    walk_at "nzf"
    walk_at "nzx"
    · rfl
    · rfl
  | box t ih =>
    intro n s hs hn
    obtain ⟨n, rfl⟩ : ∃ m, n = m + 1 := ex_1 hn
    have ih' : ∀ s, SrcOk s → CJ C n (.ref 111) [.val (.ref a), .dat t.dat] (srcL s) (.dat (othT t s).1.dat) (srcL (othT t s).2) := fun s hs => ih n s hs (h_t hn)
    clear ih
    simp only [Ty.dat]
    refine CJ.body (fl := .ret _) B rfl rfl (binds_plain (xs := [Str.ofString "source", Str.ofString "told"]) fun vs hl => ?_) (Nat.le_refl _) (by decide) (fun k => by walk_at "nzb") rfl (fun L => ?_) rfl rfl rfl
    · obtain ⟨_, _, rfl⟩ := len2 hl; rfl
    walk_at "nza"
    walk_at "nzf"
    walk_at "nzy"
    walk_at "nzx"
    · rfl
    · rfl
  | arr t ih =>
    intro n s hs hn
    obtain ⟨n, rfl⟩ : ∃ m, n = m + 1 := ex_1 hn
    have ih' : ∀ s, SrcOk s → CJ C n (.ref 111) [.val (.ref a), .dat t.dat] (srcL s) (.dat (othT t s).1.dat) (srcL (othT t s).2) := fun s hs => ih n s hs (h_t hn)
    clear ih
    simp only [Ty.dat]
    refine CJ.body (fl := .ret _) B rfl rfl (binds_plain (xs := [Str.ofString "source", Str.ofString "told"]) fun vs hl => ?_) (Nat.le_refl _) (by decide) (fun k => by walk_at "nzb") rfl (fun L => ?_) rfl rfl rfl
    · obtain ⟨_, _, rfl⟩ := len2 hl; rfl
    walk_at "nza"
    walk_at "nzf"
    walk_at "nzy"
    walk_at "nzx"
    · rfl
    · rfl
  | ref r m t ih =>
    intro n s hs hn
    obtain ⟨n, rfl⟩ : ∃ m, n = m + 2 := ex_2 hn
    have ih' : ∀ s, SrcOk s → CJ C (n + 1) (.ref 111) [.val (.ref a), .dat t.dat] (srcL s) (.dat (othT t s).1.dat) (srcL (othT t s).2) := fun s hs => ih (n + 1) s hs (h_s hn)
    clear ih
    have h1 : SrcOk (takeS s 6) := takeS_ok hs (by decide)
    have h2 : SrcOk (takeS s 3) := takeS_ok hs (by decide)
    have h3 : SrcOk (takeS (takeS s 3) 6) := takeS_ok h2 (by decide)
    simp only [Ty.dat]
    refine CJ.body (fl := .ret _) B rfl rfl (binds_plain (xs := [Str.ofString "source", Str.ofString "told"]) fun vs hl => ?_) (Nat.le_refl _) (by decide) (fun k => by walk_at "nzb") rfl (fun L => ?_) rfl rfl rfl
    · obtain ⟨_, _, rfl⟩ := len2 hl; rfl
    walk_at "nza"
    walk_at "nzy"
    cases m with
    | true =>
      (with_reducible apply BsJ.cons)
      · (with_reducible apply SJ.assign)
        · (with_reducible apply EJ.and_v)
          · walk_at "nz"
          · intro _; walk_at "nz"
          · intro q; cases q
        · exact ⟨rfl, .inl rfl⟩
        · rfl
      · walk_at "nzx"
        · rfl
        · rfl
    | false =>
      (with_reducible apply BsJ.cons)
      · (with_reducible apply SJ.assign (a := .dat (.bool false)) (l₁ := srcL s))
        · (with_reducible apply EJ.and_v (r := .dat (.bool false)) (l₁ := srcL s))
          · walk_at "nz"
          · intro q; cases q
          · intro _; exact ⟨rfl, rfl⟩
        · exact ⟨rfl, .inl rfl⟩
        · rfl
      · walk_at "nzx"
        · rfl
        · rfl
  | tup t u iht ihu =>
    intro n s hs hn
    obtain ⟨n, rfl⟩ : ∃ m, n = m + 2 := ex_2 hn
    have ih1 : ∀ s, SrcOk s → CJ C (n + 1) (.ref 111) [.val (.ref a), .dat t.dat] (srcL s) (.dat (othT t s).1.dat) (srcL (othT t s).2) := fun s hs => iht (n + 1) s hs (h_a hn)
    have ih2 : ∀ s, SrcOk s → CJ C (n + 1) (.ref 111) [.val (.ref a), .dat u.dat] (srcL s) (.dat (othT u s).1.dat) (srcL (othT u s).2) := fun s hs => ihu (n + 1) s hs (h_b hn)
    clear iht ihu
    have h1 : SrcOk (othT t s).2 := othT_ok t hs
    simp only [Ty.dat]
    refine CJ.body (fl := .ret _) B rfl rfl (binds_plain (xs := [Str.ofString "source", Str.ofString "told"]) fun vs hl => ?_) (Nat.le_refl _) (by decide) (fun k => by walk_at "nzb") rfl (fun L => ?_) rfl rfl rfl
    · obtain ⟨_, _, rfl⟩ := len2 hl; rfl
    walk_at "nza"
    walk_at "nzf"
    walk_at "nzf"
    walk_at "nzy"
    walk_at "nzx"
    · rfl
    · rfl
  | adt q r t u iht ihu =>
    intro n s hs hn
    obtain ⟨n, rfl⟩ : ∃ m, n = m + 2 := ex_2 hn
    have ih1 : ∀ s, SrcOk s → CJ C (n + 1) (.ref 111) [.val (.ref a), .dat t.dat] (srcL s) (.dat (othT t s).1.dat) (srcL (othT t s).2) := fun s hs => iht (n + 1) s hs (h_a hn)
    have ih2 : ∀ s, SrcOk s → CJ C (n + 1) (.ref 111) [.val (.ref a), .dat u.dat] (srcL s) (.dat (othT u s).1.dat) (srcL (othT u s).2) := fun s hs => ihu (n + 1) s hs (h_b hn)
    clear iht ihu
    have h1 : SrcOk (othT t s).2 := othT_ok t hs
    have h2 : SrcOk (othT u (othT t s).2).2 := othT_ok u h1
    simp only [Ty.dat]
    refine CJ.body (fl := .ret _) B rfl rfl (binds_plain (xs := [Str.ofString "source", Str.ofString "told"]) fun vs hl => ?_) (Nat.le_refl _) (by decide) (fun k => by walk_at "nzb") rfl (fun L => ?_) rfl rfl rfl
    · obtain ⟨_, _, rfl⟩ := len2 hl; rfl
    walk_at "nza"
    walk_at "nzf"
    walk_at "nzf"
    walk_at "nzf"
    walk_at "nzy"
    walk_at "nza"
    walk_at "nzx"
    · rfl
    · rfl
end
end
section
/-- the turns of a for over a list of known length -/
local macro_rules | `(tactic| walk_at "nzv") => `(tactic| first
  | exact Loop.nil
  | (apply Loop.ret; (refine ⟨_, AsJ.name ⟨rfl, .inl rfl⟩, ?_⟩); walk_at "nzy"; walk_at "nzx"; (focus exact rfl); exact rfl)
  | (apply Loop.next; (focus (refine ⟨_, AsJ.name ⟨rfl, .inl rfl⟩, ?_⟩); walk_at "nzf"; exact BsJ.nil); walk_at "nzv"))

inductive Way where
  | co | inn | bi
deriving DecidableEq
def Way.s : Way → Str
  | .co => Str.ofString "co"
  | .inn => Str.ofString "in"
  | .bi => Str.ofString "bi"
abbrev Way.d (w : Way) : PyData := .str w.s
def within (a b : Way) : Way := if a = .bi ∨ b = .bi then .bi else if a = .inn ∨ b = .inn then .inn else .co
section
variable {C : Cx} {n : Nat} {l : List PyData}
theorem within_J (B : Bs C) (a b : Way) : CJ C (n + 1) (.ref 123) [.dat a.d, .dat b.d] l (.dat (within a b).d) l := by
  refine CJ.body (fl := .ret _) B rfl rfl (binds_plain (xs := [Str.ofString "around", Str.ofString "inner"]) fun vs hl => ?_) (Nat.le_refl _) (by decide) (fun k => by walk_at "nzb") rfl (fun L => ?_) rfl rfl rfl
  · obtain ⟨_, _, rfl⟩ := len2 hl; rfl
  cases a <;> cases b
  all_goals first
    | ((with_reducible apply BsJ.cons)
       · (with_reducible apply SJ.for_)
         · walk_at "nzi"
         · walk_at "nzv"
         · intro _; rfl
       · walk_at "nzx"
         · exact rfl
         · exact rfl)
    | ((with_reducible apply BsJ.ret)
       (with_reducible apply SJ.for_)
       · walk_at "nzi"
       · walk_at "nzv"
       · intro _; rfl)
end
end
local macro_rules | `(tactic| walk_at "nzc") => `(tactic| ((with_reducible apply within_J); assumption))
section
section
variable {C : Cx} {n : Nat} {env : Env} {ρ : Rho} {l l' l₁ : List PyData}
theorem CStep.name {x : Str} {px : Pos} {a : AV} {out : List PyData} {inn : Rho → List PyData → List PyData → List PyData → Prop} (hx : StoreOk env x) (hn : ρ.lookup x = none) (h : inn ((x, a) :: ρ) l out l') : CStep C n env (.Name x px) [] inn ρ (.av a) l out l' :=
  ⟨_, l, true, AsJ.name hx, sub_cons hn, TsJ.nil, h⟩
theorem CLoop.each {stp : IV → List PyData → List PyData → List PyData → Prop} {f : PyData → List PyData} : ∀ {ds : List PyData}, (∀ d ∈ ds, stp (ivD d) l (f d) l) → CLoop stp (ds.map ivD) l (ds.flatMap f) l
  | [], _ => CLoop.nil
  | d :: ds, h => by
    rw [List.flatMap_cons]
    exact CLoop.cons (h d List.mem_cons_self) (CLoop.each fun e he => h e (List.mem_cons_of_mem _ he))

/-! what varies how, as a dict -/
abbrev Ways := Bool → Way × Way × Way
def wayL (v : Way × Way × Way) : List PyData := [v.1.d, v.2.1.d, v.2.2.d]
def Ty.pS (q : Bool) : Str := if q then Str.ofString "Q" else Str.ofString "P"
theorem Ty.pn_eq (q : Bool) : Ty.pn q = .str (Ty.pS q) := by cases q <;> rfl
def VarP (prog : Program) (w : World) (V : Ways) : Heap → Value → Prop := fun g v => ∃ d f, v = .ref d ∧ g.MapOf (PySem.strKind prog w) d f ∧ ∀ q : Bool, ∃ u, f (Ty.pS q) = some u ∧ Rd g u (.tuple (wayL (V q)))
theorem VarP.mono {prog : Program} {w : World} {V : Ways} : ∀ g g' v, VarP prog w V g v → Le g g' → VarP prog w V g' v := by
  rintro g g' v ⟨d, f, e, ⟨o, es, ep, ho, r⟩, h⟩ k
  exact ⟨d, f, e, ⟨o, es, ep, k _ _ ho, r⟩, fun q => let ⟨u, e1, e2⟩ := h q; ⟨u, e1, e2.mono k⟩⟩
abbrev varAV (C : Cx) (V : Ways) : AV := .inv (VarP C.prog C.w V) VarP.mono
theorem OJ2.itemV {value slice : Expr} {V : Ways} {q : Bool} (hs : PlainSub slice) : OJ2 C n (varAV C V) (.dat (Ty.pn q)) l (subscriptTail value slice) (.dat (.tuple (wayL (V q)))) l := by
  intro v u
  refine ⟨?_⟩
  intro A s g Q E RM hg gh hF S kk
  obtain ⟨⟨d, f, rfl, hm, hq⟩, h2⟩ := hF
  rw [Ty.pn_eq] at h2
  obtain ⟨t, rfl⟩ := Rd.str_inv h2
  obtain ⟨u, e1, e2⟩ := hq q
  have hm' : s.heap.MapOf (PySem.strKind C.prog C.w) d f := let ⟨o, es, ep, ho, r⟩ := hm; ⟨o, es, ep, gh _ _ ho, r⟩
  exact tail_any hm'.typeIs slot_dict_getitem.lookup (wpAny_getItem_of (knd := PySem.strKind C.prog C.w) (k := Ty.pS q) (by simp [PySem.strKind, Value.isStrOf, Value.isStr]) hm' e1 (kk u g s.heap _ (Stp.refl gh) S e2)) (hs _ _)

/-! the places of a type -/
def places (V : Ways) : Ty → Ty → Way → List (Int × Way)
  | .ref r _ t, .ref _ m' u, w => (r, w) :: places V t u (within w (if m' then .inn else .co))
  | .box t, .box u, w => places V t u w
  | .arr t, .arr u, w => places V t u w
  | .tup a b, .tup a' b', w => places V a a' w ++ places V b b' w
  | .adt q r a b, .adt _ _ a' b', w => (r, within w (V q).1) :: (places V a a' (within w (V q).2.1) ++ places V b b' (within w (V q).2.2))
  | _, _, _ => []
section
variable {V : Ways} {t u a b a' b' : Ty} {r r' : Int} {m m' q q' : Bool} {w : Way}
theorem places_int : places V .int .int w = [] := rfl
theorem places_ref : places V (.ref r m t) (.ref r' m' u) w = (r, w) :: places V t u (within w (if m' then .inn else .co)) := rfl
theorem places_box : places V (.box t) (.box u) w = places V t u w := rfl
theorem places_arr : places V (.arr t) (.arr u) w = places V t u w := rfl
theorem places_tup : places V (.tup a b) (.tup a' b') w = places V a a' w ++ places V b b' w := rfl
theorem places_adt : places V (.adt q r a b) (.adt q' r' a' b') w = (r, within w (V q).1) :: (places V a a' (within w (V q).2.1) ++ places V b b' (within w (V q).2.2)) := rfl
end
inductive Sm : Ty → Ty → Prop
  | int : Sm .int .int
  | ref {r r' : Int} {m m' : Bool} {t u : Ty} : Sm t u → Sm (.ref r m t) (.ref r' m' u)
  | box {t u : Ty} : Sm t u → Sm (.box t) (.box u)
  | arr {t u : Ty} : Sm t u → Sm (.arr t) (.arr u)
  | tup {a b a' b' : Ty} : Sm a a' → Sm b b' → Sm (.tup a b) (.tup a' b')
  | adt {q : Bool} {r r' : Int} {a b a' b' : Ty} : Sm a a' → Sm b b' → Sm (.adt q r a b) (.adt q r' a' b')
theorem places_len {V : Ways} {t u : Ty} (h : Sm t u) : ∀ w, (places V t u w).length + 1 ≤ 2 ^ (t.ht + 1) := by
  induction h with
  | int => intro w; simp [places_int, places_ref, places_box, places_arr, places_tup, places_adt, Ty.ht]
  | @ref r r' m m' t u h ih => intro w; have := ih (within w (if m' then .inn else .co)); simp only [places_int, places_ref, places_box, places_arr, places_tup, places_adt, Ty.ht, List.length_cons]; rw [Nat.pow_succ 2 (t.ht + 1)]; have h2 := Nat.one_le_two_pow (n := t.ht + 1); omega
  | box h ih => intro w; have := ih w; simp only [places_int, places_ref, places_box, places_arr, places_tup, places_adt, Ty.ht]; rw [Nat.pow_succ]; omega
  | arr h ih => intro w; have := ih w; simp only [places_int, places_ref, places_box, places_arr, places_tup, places_adt, Ty.ht]; rw [Nat.pow_succ]; omega
  | tup h1 h2 ih1 ih2 =>
    rename_i a b a' b'
    intro w; have x := ih1 w; have y := ih2 w
    have p1 : 2 ^ (a.ht + 1) ≤ 2 ^ (max a.ht b.ht + 1) := Nat.pow_le_pow_right (by decide) (by omega)
    have p2 : 2 ^ (b.ht + 1) ≤ 2 ^ (max a.ht b.ht + 1) := Nat.pow_le_pow_right (by decide) (by omega)
    simp only [places_int, places_ref, places_box, places_arr, places_tup, places_adt, Ty.ht, List.length_append]; rw [Nat.pow_succ 2 (max a.ht b.ht + 1)]; omega
  | adt h1 h2 ih1 ih2 =>
    rename_i q r r' a b a' b'
    intro w; have x := ih1 (within w (V q).2.1); have y := ih2 (within w (V q).2.2)
    have p1 : 2 ^ (a.ht + 1) ≤ 2 ^ (max a.ht b.ht + 1) := Nat.pow_le_pow_right (by decide) (by omega)
    have p2 : 2 ^ (b.ht + 1) ≤ 2 ^ (max a.ht b.ht + 1) := Nat.pow_le_pow_right (by decide) (by omega)
    simp only [places_int, places_ref, places_box, places_arr, places_tup, places_adt, Ty.ht, List.length_cons, List.length_append]; rw [Nat.pow_succ 2 (max a.ht b.ht + 1)]; omega
theorem othT_sm : ∀ (t : Ty) (s : Src), Sm t (othT t s).1
  | .int, s => Sm.int
  | .ref r m t, s => by
    unfold othT
    split
    · exact Sm.ref (othT_sm t _)
    · exact Sm.ref (othT_sm t _)
  | .box t, s => Sm.box (othT_sm t s)
  | .arr t, s => Sm.arr (othT_sm t s)
  | .tup a b, s => Sm.tup (othT_sm a s) (othT_sm b _)
  | .adt q r a b, s => Sm.adt (othT_sm a s) (othT_sm b _)
theorem Sm.refl : ∀ t : Ty, Sm t t
  | .int => Sm.int
  | .ref _ _ t => Sm.ref (Sm.refl t)
  | .box t => Sm.box (Sm.refl t)
  | .arr t => Sm.arr (Sm.refl t)
  | .tup a b => Sm.tup (Sm.refl a) (Sm.refl b)
  | .adt _ _ a b => Sm.adt (Sm.refl a) (Sm.refl b)
abbrev plD (p : Int × Way) : PyData := .tuple [.int p.1, p.2.d]
abbrev plL (ps : List (Int × Way)) : List PyData := ps.map plD
end
local macro_rules | `(tactic| walk_at "nzo") => `(tactic| (with_reducible apply OJ2.itemV); (intro _ _; with_unfolding_all exact rfl))
section
variable {C : Cx} {l : List PyData}
theorem places_J (B : Bs C) (V : Ways) {t u : Ty} (hsm : Sm t u) : ∀ (n : Nat) (w : Way), t.ht + 2 ≤ n → t.ht ≤ 10 → CJ C n (.ref 116) [.dat t.dat, .dat u.dat, varAV C V, .dat w.d] l (.dat (.list (plL (places V t u w)))) l := by
  induction hsm with
  | int =>
    intro n w hn h10
    obtain ⟨n, rfl⟩ : ∃ m, n = m + 1 := ex_1 hn
    simp only [Ty.dat]
    refine CJ.body (fl := .ret _) B rfl rfl (binds_plain (xs := [Str.ofString "told", Str.ofString "by", Str.ofString "varied", Str.ofString "way"]) fun vs hl => ?_) (Nat.le_refl _) (by decide) (fun k => by walk_at "nzb") rfl (fun L => ?_) rfl rfl rfl
    · obtain ⟨_, _, _, _, rfl⟩ := len4 hl; rfl
    walk_at "nza"
    walk_at "nzf"
    walk_at "nzf"
    walk_at "nzf"
    walk_at "nzy"
    walk_at "nzx"
    · rfl
    · rfl
  | @ref r r' m m' t u h ih =>
    intro n w hn h10
    obtain ⟨n, rfl⟩ : ∃ m, n = m + 2 := ex_2 hn
    have ih' : ∀ w : Way, CJ C (n + 1) (.ref 116) [.dat t.dat, .dat u.dat, varAV C V, .dat w.d] l (.dat (.list (plL (places V t u w)))) l := fun w => ih (n + 1) w (h_s hn) (h_s0 h10)
    have hlen : ∀ w, (places V t u w).length ≤ 5000 := fun w => Nat.le_trans (len_2 (places_len (V := V) h w) (h_s0 h10)) (by decide)
    clear ih
    simp only [Ty.dat]
    refine CJ.body (fl := .ret _) B rfl rfl (binds_plain (xs := [Str.ofString "told", Str.ofString "by", Str.ofString "varied", Str.ofString "way"]) fun vs hl => ?_) (Nat.le_refl _) (by decide) (fun k => by walk_at "nzb") rfl (fun L => ?_) rfl rfl rfl
    · obtain ⟨_, _, _, _, rfl⟩ := len4 hl; rfl
    walk_at "nza"
    walk_at "nzy"
    (with_reducible apply BsJ.ret)
    (with_reducible apply SJ.ret)
    (with_reducible apply EJ.to)
    · (with_reducible apply EJ.bin)
      · walk_at "nz"
      · (with_reducible apply EJ.call)
        · walk_at "nz"
        · walk_at "nz"
        · (with_reducible apply EsJ.cons rfl)
          · walk_at "nz"
          · (with_reducible apply EsJ.cons rfl)
            · walk_at "nz"
            · (with_reducible apply EsJ.cons rfl)
              · walk_at "nz"
              · (with_reducible apply EsJ.cons rfl)
                · (with_reducible apply EJ.call)
                  · walk_at "nz"
                  · walk_at "nz"
                  · (with_reducible apply EsJ.cons rfl)
                    · walk_at "nz"
                    · (with_reducible apply EsJ.cons rfl (a := .dat (Way.d (if m' then .inn else .co))))
                      · cases m' with
                        | true =>
                          (with_reducible apply EJ.ite_t)
                          · walk_at "nzt"
                          · exact EJ.cstr
                        | false =>
                          (with_reducible apply EJ.ite_f)
                          · walk_at "nzt"
                          · exact EJ.cstr
                      · exact EsJ.nil
                  · exact within_J B _ _
                  · rfl
                  · rfl
                  · rfl
                · exact EsJ.nil
        · walk_at "nz"
        · rfl
        · rfl
        · rfl
      · (with_reducible apply OJ2.catL)
        have := hlen (within w (if m' then .inn else .co))
        simp only [List.length_map, List.length_cons, List.length_nil] at this ⊢
        omega
    · simp [places_int, places_ref, places_box, places_arr, places_tup, places_adt]
    · rfl
  | @box t u h ih =>
    intro n w hn h10
    obtain ⟨n, rfl⟩ : ∃ m, n = m + 1 := ex_1 hn
    have ih' : ∀ w : Way, CJ C n (.ref 116) [.dat t.dat, .dat u.dat, varAV C V, .dat w.d] l (.dat (.list (plL (places V t u w)))) l := fun w => ih n w (h_t hn) (h_s0 h10)
    clear ih
    simp only [Ty.dat]
    refine CJ.body (fl := .ret _) B rfl rfl (binds_plain (xs := [Str.ofString "told", Str.ofString "by", Str.ofString "varied", Str.ofString "way"]) fun vs hl => ?_) (Nat.le_refl _) (by decide) (fun k => by walk_at "nzb") rfl (fun L => ?_) rfl rfl rfl
    · obtain ⟨_, _, _, _, rfl⟩ := len4 hl; rfl
    walk_at "nza"
    walk_at "nzf"
    walk_at "nzy"
    walk_at "nzx"
    · rfl
    · rfl
  | @arr t u h ih =>
    intro n w hn h10
    obtain ⟨n, rfl⟩ : ∃ m, n = m + 1 := ex_1 hn
    have ih' : ∀ w : Way, CJ C n (.ref 116) [.dat t.dat, .dat u.dat, varAV C V, .dat w.d] l (.dat (.list (plL (places V t u w)))) l := fun w => ih n w (h_t hn) (h_s0 h10)
    clear ih
    simp only [Ty.dat]
    refine CJ.body (fl := .ret _) B rfl rfl (binds_plain (xs := [Str.ofString "told", Str.ofString "by", Str.ofString "varied", Str.ofString "way"]) fun vs hl => ?_) (Nat.le_refl _) (by decide) (fun k => by walk_at "nzb") rfl (fun L => ?_) rfl rfl rfl
    · obtain ⟨_, _, _, _, rfl⟩ := len4 hl; rfl
    walk_at "nza"
    walk_at "nzf"
    walk_at "nzy"
    walk_at "nzx"
    · rfl
    · rfl
  | @tup a b a' b' h1 h2 iha ihb =>
    intro n w hn h10
    obtain ⟨n, rfl⟩ : ∃ m, n = m + 2 := ex_2 hn
    have ih1 : ∀ w : Way, CJ C (n + 1) (.ref 116) [.dat a.dat, .dat a'.dat, varAV C V, .dat w.d] l (.dat (.list (plL (places V a a' w)))) l := fun w => iha (n + 1) w (h_a hn) (h_a0 h10)
    have ih2 : ∀ w : Way, CJ C (n + 1) (.ref 116) [.dat b.dat, .dat b'.dat, varAV C V, .dat w.d] l (.dat (.list (plL (places V b b' w)))) l := fun w => ihb (n + 1) w (h_b hn) (h_b0 h10)
    have hlen1 : ∀ w, (places V a a' w).length ≤ 2048 := fun w => len_2 (places_len (V := V) h1 w) (h_a0 h10)
    have hlen2 : ∀ w, (places V b b' w).length ≤ 2048 := fun w => len_2 (places_len (V := V) h2 w) (h_b0 h10)
    clear iha ihb
    simp only [Ty.dat]
    refine CJ.body (fl := .ret _) B rfl rfl (binds_plain (xs := [Str.ofString "told", Str.ofString "by", Str.ofString "varied", Str.ofString "way"]) fun vs hl => ?_) (Nat.le_refl _) (by decide) (fun k => by walk_at "nzb") rfl (fun L => ?_) rfl rfl rfl
    · obtain ⟨_, _, _, _, rfl⟩ := len4 hl; rfl
    walk_at "nza"
    walk_at "nzf"
    walk_at "nzf"
    walk_at "nzy"
    (with_reducible apply BsJ.ret)
    (with_reducible apply SJ.ret)
    (with_reducible apply EJ.to)
    · (with_reducible apply EJ.comp2)
      · walk_at "nzcomp"
      · intro _; rfl
      · intro _ _; rfl
      · (with_reducible apply IterJ.range (m := 2))
        · walk_at "nz"
        · walk_at "nz"
        · rfl
        · decide
        · intro _ _; rfl
        · rfl
        · rfl
      · intro Cf
        apply CLoop.cons
        · apply CStep.name
          · exact ⟨rfl, .inl rfl⟩
          · rfl
          · refine ⟨(plL (places V a a' w)).map ivD, l, ?_, ?_⟩
            · (with_reducible apply IterJ.list)
              walk_at "nz"
            · refine CLoop.each (f := fun d => [d]) fun d _ => ?_
              apply CStep.name1
              · exact ⟨rfl, .inl rfl⟩
              · rfl
              · walk_at "nz"
        · apply CLoop.cons
          · apply CStep.name
            · exact ⟨rfl, .inl rfl⟩
            · rfl
            · refine ⟨(plL (places V b b' w)).map ivD, l, ?_, ?_⟩
              · (with_reducible apply IterJ.list)
                walk_at "nz"
              · refine CLoop.each (f := fun d => [d]) fun d _ => ?_
                apply CStep.name1
                · exact ⟨rfl, .inl rfl⟩
                · rfl
                · walk_at "nz"
          · exact CLoop.nil
      · have x := hlen1 w; have y := hlen2 w
        simp
        omega
    · simp [places_int, places_ref, places_box, places_arr, places_tup, places_adt]
    · rfl
  | @adt q r r' a b a' b' h1 h2 iha ihb =>
    intro n w hn h10
    obtain ⟨n, rfl⟩ : ∃ m, n = m + 2 := ex_2 hn
    have ih1 : ∀ w : Way, CJ C (n + 1) (.ref 116) [.dat a.dat, .dat a'.dat, varAV C V, .dat w.d] l (.dat (.list (plL (places V a a' w)))) l := fun w => iha (n + 1) w (h_a hn) (h_a0 h10)
    have ih2 : ∀ w : Way, CJ C (n + 1) (.ref 116) [.dat b.dat, .dat b'.dat, varAV C V, .dat w.d] l (.dat (.list (plL (places V b b' w)))) l := fun w => ihb (n + 1) w (h_b hn) (h_b0 h10)
    have hlen1 : ∀ w, (places V a a' w).length ≤ 2048 := fun w => len_2 (places_len (V := V) h1 w) (h_a0 h10)
    have hlen2 : ∀ w, (places V b b' w).length ≤ 2048 := fun w => len_2 (places_len (V := V) h2 w) (h_b0 h10)
    clear iha ihb
    simp only [Ty.dat]
    refine CJ.body (fl := .ret _) B rfl rfl (binds_plain (xs := [Str.ofString "told", Str.ofString "by", Str.ofString "varied", Str.ofString "way"]) fun vs hl => ?_) (Nat.le_refl _) (by decide) (fun k => by walk_at "nzb") rfl (fun L => ?_) rfl rfl rfl
    · obtain ⟨_, _, _, _, rfl⟩ := len4 hl; rfl
    walk_at "nza"
    walk_at "nzf"
    walk_at "nzf"
    walk_at "nzf"
    walk_at "nzf"
    (with_reducible apply BsJ.cons)
    · (with_reducible apply SJ.comp1)
      · exact ⟨rfl, .inl rfl⟩
      · rfl
      · walk_at "nzcomp"
      · intro _; rfl
      · walk_at "nzi"
      · intro Cf
        walk_at "nzl"
      · exact Nat.le_of_ble_eq_true rfl
    · walk_at "nza"
      (with_reducible apply BsJ.cons)
      · (with_reducible apply SJ.for_)
        · (with_reducible apply IterJ.range (m := 2))
          · walk_at "nz"
          · walk_at "nz"
          · rfl
          · decide
          · intro _ _; rfl
          · rfl
          · rfl
        · apply Loop.next
          · refine ⟨_, AsJ.name ⟨rfl, .inl rfl⟩, ?_⟩
            (with_reducible apply BsJ.cons)
            · (with_reducible apply SJ.assign)
              · (with_reducible apply EJ.bin)
                · walk_at "nz"
                · walk_at "nz"
                · (with_reducible apply OJ2.catL)
                  have x := hlen1 (within w (V q).2.1)
                  simp only [List.length_map, List.length_cons, List.length_nil]
                  omega
              · exact ⟨rfl, .inl rfl⟩
              · rfl
            · exact BsJ.nil
          · apply Loop.next
            · refine ⟨_, AsJ.name ⟨rfl, .inl rfl⟩, ?_⟩
              (with_reducible apply BsJ.cons)
              · (with_reducible apply SJ.assign)
                · (with_reducible apply EJ.bin)
                  · walk_at "nz"
                  · walk_at "nz"
                  · (with_reducible apply OJ2.catL)
                    have x := hlen1 (within w (V q).2.1)
                    have y := hlen2 (within w (V q).2.2)
                    simp only [List.length_map, List.length_append, List.length_cons, List.length_nil]
                    omega
                · exact ⟨rfl, .inl rfl⟩
                · rfl
              · exact BsJ.nil
            · exact Loop.nil
        · intro _; rfl
      · walk_at "nzx"
        · simp [places_int, places_ref, places_box, places_arr, places_tup, places_adt]
        · rfl
end
end
section
section
variable {C : Cx} {n : Nat} {env : Env} {ρ : Rho} {l l' l₁ : List PyData}
/-- the frame of a def is made -/
theorem enter_J {name qual : Str} {params : Arguments} {body : List Stmt} {scope : Scope} {dV kV doc pm cdv ct oc : Value} {an od : Option Addr} {osl : Array (Option Value)} {f : Addr} {xs : List Str} {bs : List AV} (B : Bs C)
    (ho : (KK C.w).lookup f = some ⟨oc, od, .func (fnOf name qual params body scope dV kV doc pm an cdv ct), osl⟩) (hcd : codeIn (KK C.w) cdv qual = true)
    (hlen : xs.length ≤ bs.length) (hnd : xs.Nodup)
    (hkind : ∀ k, ∀ x ∈ xs, scope.names.lookup x = some .local ∨ (scope.names.lookup x = some .cell ∧ ((cellsFrom k scope.names []).lookup x).isSome = true))
    (hco : scope.isCoroutine = false) (hgen : scope.isGenerator = false) (hk : scope.kind = .function)
    {A : Around} {s : Shared} {g : Heap} {vs us : List Value} {R : Result → Shared → Prop} (RM : Room (n + 1) A) (hg : Le C.h₀ g) (gh : Le g s.heap) (S : ST g C.p l s.heap)
    (hb : BindsTo s (fnOf name qual params body scope dV kV doc pm an cdv ct) ⟨vs, []⟩ (xs.zip us)) (hu : AvRs g us bs)
    (h : ∀ h₁ tk, Stp (fun _ => False) g s.heap g h₁ → FR g C.p (envOfC qual scope s.heap.objs.size f cdv) (xs.zip bs) h₁ → ST g C.p l h₁ → Room n (A.deeper (envOfC qual scope s.heap.objs.size f cdv)) →
      wpAny (model C.prog C.w) (A.deeper (envOfC qual scope s.heap.objs.size f cdv)) (execs body (envOfC qual scope s.heap.objs.size f cdv)) (fun fl s' => R (.ok (.ret (match fl with | .ret v => v | _ => .none))) s')
        (fun e s' => wpAny (model C.prog C.w) (A.deeper (envOfC qual scope s.heap.objs.size f cdv)) (leaving (envOfC qual scope s.heap.objs.size f cdv) e) (fun _ s'' => R (.error e) s'') (fun e' s'' => R (.error e') s'') s') { s with heap := h₁, toks := tk }) :
    codeAny (model C.prog C.w) A (.call (.ref f) ⟨vs, []⟩) R s := by
  obtain ⟨pr, loose, mg, mb, T⟩ := B.T
  have hs := hg.trans gh
  have hroom : A.depth < recursionLimit := by have := RM.2.1; show A.depth < 1000; omega
  have hul := avRs_length hu
  have hkeys : (xs.zip us).map (·.1) = xs := by
    rw [List.map_fst_zip (by omega)]
  refine codeAny_call_function (fd := fnOf name qual params body scope dV kV doc pm an cdv ct) hroom (hs _ _ (B.X _ _ ho)) rfl hco hgen rfl (codeRec_of (B.X.keeps hs) hcd) (hb _ _ _ _ ?_)
  refine wpAny_newFunctionEnv_cells hk (fun x hx => hkind _ x.1 (by rw [← hkeys]; exact List.mem_map_of_mem hx)) fun env' he s' X => ?_
  subst he
  refine ⟨(T.nolimit.keeps hs).keeps X.toInCall.keep, codeAny_func ?_⟩
  obtain ⟨h₁, tk, rfl, hk₁⟩ := X.done
  have st0 : Stp (fun _ => False) g s.heap g h₁ := Stp.keeps gh hk₁
  have hnew : ∀ a, s.heap.objs.size ≤ a → g.get? a = none ∧ C.p ≠ some a := fun a ha => ⟨none_of_le gh (fresh_none ha), fun q => by
    obtain ⟨_, vs', ⟨_, e, _⟩, _⟩ := S a q
    rw [fresh_none ha] at e; cases e⟩
  have hF : FR g C.p (envOfC qual scope s.heap.objs.size f cdv) (xs.zip bs) h₁ := by
    refine ⟨⟨_, X.toInCall.ns, fun x a e kk => ?_⟩, fun x a e kk => ?_, (hnew _ (Nat.le_refl _)).1, (hnew _ (Nat.le_refl _)).2, fun x c e => ?_, fun x y c e e' => ?_⟩
    · obtain ⟨v, e1, e2⟩ := zip_lookup hu e
      exact ⟨v, bindL_get (by rw [hkeys]; exact hnd) e1 kk, e2⟩
    · obtain ⟨v, e1, e2⟩ := zip_lookup hu e
      have hx : x ∈ xs := by rw [← hkeys]; exact List.mem_map.mpr ⟨_, mem_of_lookup e1, rfl⟩
      rcases hkind (s.heap.objs.size + 1) x hx with q | ⟨q, q2⟩
      · exact absurd q kk
      · obtain ⟨c, hc⟩ := Option.isSome_iff_exists.mp q2
        obtain ⟨o, ho', hd'⟩ := X.cell x c hc
        exact ⟨c, o, v, hc, ho', hd'.trans (congrArg Data.cell (bindC_get (by rw [hkeys]; exact hnd) e1 kk)), e2⟩
    · have hab := X.above x c (mem_of_lookup e)
      have hab' : s.heap.objs.size < c := hab
      obtain ⟨o, ho', hd'⟩ := X.cell x c e
      exact ⟨(hnew c (Nat.le_of_lt hab')).1, (hnew c (Nat.le_of_lt hab')).2, Nat.ne_of_gt hab', o, _, ho', hd'⟩
    · exact name_of_addr X.apart (mem_of_lookup e) (mem_of_lookup e')
  exact h h₁ tk st0 hF (S.step st0 fun _ _ q => q) (RM.deeper _)

/-- a store of an attribute -/
theorem attr_set {A : Around} {E : Value → Shared → Prop} {s : Shared} {x dx : Addr} {es : List DictEntry} {m : Nat} {name : Str} {v : Value} {Q : Unit → Shared → Prop} (X : (KK C.w).In s.heap) (hx : s.heap.get? x = some (instObj 60 dx)) (hd : s.heap.get? dx = some (dictOf es m))
    (ht : takerIn (KK C.w) 60 name = some none) (hl : (getL name es).isSome = true) (hz : (putL name (PyData.keyHash C.w.params name) (.str name (s.toks + 1)) v es).length ≤ 1000)
    (h : ∀ h', h'.get? dx = some (dictOf (putL name (PyData.keyHash C.w.params name) (.str name (s.toks + 1)) v es) (putN name es m)) → Heap.SameBut dx s.heap h' → Q () { s with heap := h', toks := s.toks + 1 + 1 }) :
    wpAny (model C.prog C.w) A (setAttr (.ref x) name v) Q E s := by
  have I : InstAt s.heap x (instObj 60 dx) 60 (some (dictOf es m)) := ⟨hx, rfl, rfl, hd⟩
  refine set_plain X I rfl (osa_open (s := { s with toks := s.toks + 1 }) X I rfl ht fun b => ?_)
  have L := looks_clsIn (M := model C.prog C.w) X (C := 60) rfl
  refine wpAny_bind (wpAny_pure (wpAny_bind (wpAny_bind (wpAny_loadPart hx (wpAny_bind (L.at ?_))))))
  refine wpAny_pure (a := some dx) (wpAny_bind (wpAny_pure (wpAny_bind ?_)))
  unfold nsSet
  refine wpAny_bind (wpAny_bind (wpAny_askSetting (wpAny_pure (wpAny_bind (wpAny_mkText (wpAny_bind (wpAny_loadPart hd ?_)))))))
  have c : (!es.toArray.any (·.key.isStr name) && es.toArray.any (·.refKey)) = false := by
    rw [← Array.any_toList, ← Array.any_toList]
    unfold getL at hl
    split at hl
    · rename_i en he
      rw [List.any_eq_true.mpr ⟨en, List.mem_of_find?_eq_some he, List.find?_some he⟩]; rfl
    · split at hl
      · cases hl
      · rename_i z; rw [Bool.not_eq_true] at z; rw [z, Bool.and_false]
  dsimp only [dictOf]
  rw [aRefKeyMayBeTheName_at, c]
  have e' := putName_dict name (PyData.keyHash C.w.params name) (.str name (s.toks + 1)) v es m
  have D' : (s.heap.update dx (Obj.putName name (PyData.keyHash C.w.params name) (.str name (s.toks + 1)) v)).get? dx = some (dictOf (putL name (PyData.keyHash C.w.params name) (.str name (s.toks + 1)) v es) (putN name es m)) := by
    rw [Heap.get?_update_self _ hd (by rw [e']; rfl), e']
  refine wpAny_updatePart hd ?_
  refine wpAny_bind (wpAny_lookBehind D' (pastItsLine_dict (by rw [List.size_toArray, sizeLine_eq]; omega)) ?_)
  exact wpAny_pure (h _ D' (Heap.SameBut.update ..))
end
end
section
theorem tc_weight (a : Args) : (Code.builtin "type.__call__" a).weight ≤ 3 := by
  have hf : (Code.builtin "type.__call__" a).frames = 0 := by kernel_rfl
  have hc : (Code.builtin "type.__call__" a).isCaller = false := by kernel_rfl
  unfold Code.weight
  rw [hf, hc]
  split <;> split <;> simp
theorem tc_units (a : Args) : (Code.builtin "type.__call__" a).cUnits = 1 := by kernel_rfl
theorem Room.call {n : Nat} {A : Around} {a : Args} (R : Room (n + 3) A) : Room n (A.under (.builtin "type.__call__" a)) :=
  ⟨R.1, by have := R.2.1; show A.depth + (Code.builtin "type.__call__" a).weight + n < 900; have := tc_weight a; omega, by have := R.2.2; show A.units + (Code.builtin "type.__call__" a).cUnits + 8 * n < 9000; rw [tc_units]; omega⟩
section
variable {C : Cx} {n : Nat} {env : Env} {ρ : Rho} {l l' l₁ : List PyData}
/-- what a Relation holds -/
def relEs (k1 k2 : Tok) (h1 h2 : Int) (v : Value) (b : Addr) : List DictEntry := [⟨h1, .str (Str.ofString "varied") k1, v⟩, ⟨h2, .str (Str.ofString "pairs") k2, .ref b⟩]
def RelAt (prog : Program) (w : World) (V : Ways) (b : Addr) : Heap → Value → Prop := fun g u => ∃ x dx k1 k2 h1 h2 v m, u = .ref x ∧ g.get? x = some (instObj 60 dx) ∧ g.get? dx = some (dictOf (relEs k1 k2 h1 h2 v b) m) ∧ VarP prog w V g v
theorem RelAt.mono {prog : Program} {w : World} {V : Ways} {b : Addr} : ∀ g g' v, RelAt prog w V b g v → Le g g' → RelAt prog w V b g' v := by
  rintro g g' v ⟨x, dx, k1, k2, h1, h2, u, m, e1, e2, e3, e4⟩ k
  exact ⟨x, dx, k1, k2, h1, h2, u, m, e1, k _ _ e2, k _ _ e3, VarP.mono _ _ _ e4 k⟩
abbrev relAV (C : Cx) (V : Ways) (b : Addr) : AV := .inv (RelAt C.prog C.w V b) RelAt.mono

theorem relation_make (B : Bs C) {V : Ways} {A : Around} {s : Shared} {g : Heap} {v : Value} {Q : Value → Shared → Prop} {E : Value → Shared → Prop} (RM : Room (n + 4) A) (hg : Le C.h₀ g) (gh : Le g s.heap) (S : ST g C.p l s.heap) (hv : AvR g v (varAV C V))
    (k : ∀ g' h' tk u b, Stp (isP C.p) g s.heap g' h' → ST g' C.p l h' → s.heap.get? b = none → g'.get? b = none → RelAt C.prog C.w V b g' u → IsL h' b [] → Q u { s with heap := h', toks := tk }) :
    wpAny (model C.prog C.w) A (call (.ref 60) [v]) Q E s := by
  obtain ⟨H, gg, dd, tk, os⟩ := s
  dsimp only at gh S
  have X := B.X.keeps (hg.trans gh)
  refine wpAny_call (make_core (makes_of X rfl) (looks_findIn X (name := "__init__") (r := some (.ref 28)) rfl) (fun self => bind_fn X self rfl) (.inl rfl) ?_)
  have kk : Le H ((H.push emptyDict).push (instObj 60 H.objs.size)) := fun b o e => Heap.get?_push_of_some _ (Heap.get?_push_of_some _ e)
  have hx : ((H.push emptyDict).push (instObj 60 H.objs.size)).get? (H.objs.size + 1) = some (instObj 60 H.objs.size) := by
    have := Heap.get?_push_size (H.push emptyDict) (o := instObj 60 H.objs.size) rfl
    rwa [Heap.size_push] at this
  have hd : ((H.push emptyDict).push (instObj 60 H.objs.size)).get? H.objs.size = some emptyDict := Heap.get?_push_of_some _ (Heap.get?_push_size _ rfl)
  generalize (H.push emptyDict).push (instObj 60 H.objs.size) = H2 at kk hx hd ⊢
  have st2 : Stp (fun _ => False) g H g H2 := Stp.keeps gh kk
  have hfr : ∀ b : Nat, H.objs.size ≤ b → H.get? b = none := fun b hb => fresh_none hb
  refine enter_J (n := n) (xs := [Str.ofString "self", Str.ofString "varied"]) (us := [.ref (H.objs.size + 1), v]) (bs := [.val (.ref (H.objs.size + 1)), varAV C V]) B (f := 28) rfl rfl (Nat.le_refl _) (by decide) (fun k => by walk_at "nzb") rfl rfl rfl RM.call hg st2.gh (S.step st2 fun _ _ q => q) (BindsTo.of_eq rfl) ⟨rfl, hv, trivial⟩
    fun h₁ tk1 st3 F3 S3 RM3 => ?_
  have hx1 : h₁.get? (H.objs.size + 1) = some (instObj 60 H.objs.size) := st3.keep _ _ (fun q => q) hx
  have hd1 : h₁.get? H.objs.size = some (dictOf [] 0) := st3.keep _ _ (fun q => q) hd
  refine wpAny_execs_cons (plainObj_wpAny_Assign_Attribute ((EJ.name_l (C := C) (a := varAV C V) rfl rfl rfl rfl).run _ _ g _ _ RM3 hg st3.gh F3 S3 fun v' g4 h4 tk4 x4 S4 hv' => ?_))
  have F4 := F3.stepP x4
  refine (EJ.name_l (C := C) (a := .val (.ref (H.objs.size + 1))) rfl rfl rfl rfl).run _ _ g4 _ _ RM3 (hg.trans x4.gg) x4.gh F4 S4 fun u g5 h5 tk5 x5 S5 hu => ?_
  cases hu
  have F5 := F4.stepP x5
  have z25 : Stp (isP C.p) g H2 g5 h5 := ((st3.weak fun _ _ _ q => q.elim).trans' x4).trans' x5
  have z5 : Stp (isP C.p) g H g5 h5 := (st2.weak fun _ _ _ q => q.elim).trans' z25
  have pH : ∀ b, H.get? b = none → C.p ≠ some b := fun b e q => by obtain ⟨_, _, ⟨_, e', _⟩, _⟩ := S b q; rw [e] at e'; cases e'
  have nx := hfr _ (Nat.le_succ H.objs.size)
  have nd := hfr _ (Nat.le_refl H.objs.size)
  have hx5 : h5.get? (H.objs.size + 1) = some (instObj 60 H.objs.size) := z25.keep _ _ (pH _ nx) hx
  have hd5 : h5.get? H.objs.size = some (dictOf [] 0) := z25.keep _ _ (pH _ nd) hd
  have gnd : g.get? H.objs.size = none := none_of_le gh nd
  have g5d : g5.get? H.objs.size = none := z25.new _ _ hd gnd
  refine attr_set (m := 0) (es := []) (B.X.keeps ((hg.trans z5.gg).trans z5.gh)) hx5 hd5 rfl rfl (Nat.le_of_ble_eq_true rfl) fun h6 hd6 hs6 => ?_
  have y6 : Stp (fun b => b = H.objs.size) g5 h5 g5 h6 := Stp.same z5.gh g5d rfl hs6 hd6
  have hx6 : h6.get? (H.objs.size + 1) = some (instObj 60 H.objs.size) := y6.keep _ _ (fun q => by have q' : @Eq Nat (H.objs.size + 1) H.objs.size := q; omega) hx5
  have L3 : (H2.objs.size : Nat) ≥ H.objs.size + 2 := by
    have a1 := Heap.lt_size hx
    have a2 : @LT.lt Nat _ (H.objs.size + 1) H2.objs.size := a1
    omega
  have ld : @Ne Nat H2.objs.size H.objs.size := by omega
  have F6 := F5.step y6 (fun q => ld q) fun y c e => nomatch e
  have S6 : ST g5 C.p l h6 := S5.step y6 fun a e q => pH _ nd (by rw [e, q])
  refine wpAny_execs_cons (plainObj_wpAny_Assign_Attribute (List_ (spliced_none (wpAny_newList ?_ (by rw [sizeLine_eq]; simp)))))
  have y7 : Stp (fun _ => False) g5 h6 g5 (h6.push (lstO [])) := Stp.push y6.gh _
  have hb7 : (h6.push (lstO [])).get? h6.objs.size = some (lstO []) := Heap.get?_push_size _ rfl
  have hx7 := y7.keep _ _ (fun q => q) hx6
  have hd7 := y7.keep _ _ (fun q => q) hd6
  have bn : h6.get? h6.objs.size = none := fresh_none (Nat.le_refl _)
  generalize h6.push (lstO []) = h7 at y7 hb7 hx7 hd7 ⊢
  have F7 := F6.step y7 (fun q => q) fun _ _ _ q => q
  have S7 := S6.step y7 fun _ _ q => q
  refine (EJ.name_l (C := C) (a := .val (.ref (H.objs.size + 1))) rfl rfl rfl rfl).run _ _ g5 _ _ RM3 (hg.trans z5.gg) y7.gh F7 S7 fun u g8 h8 tk8 x8 S8 hu => ?_
  cases hu
  have pb : C.p ≠ some h6.objs.size := fun q => by obtain ⟨_, _, ⟨_, e', _⟩, _⟩ := S6 _ q; rw [bn] at e'; cases e'
  have hx8 := x8.keep _ _ (pH _ nx) hx7
  have hd8 := x8.keep _ _ (pH _ nd) hd7
  have hb8 := x8.keep _ _ pb hb7
  have g8d : g8.get? H.objs.size = none := x8.new _ _ hd7 g5d
  refine attr_set (B.X.keeps (((hg.trans z5.gg).trans x8.gg).trans x8.gh)) hx8 hd8 rfl rfl (Nat.le_of_ble_eq_true rfl) fun h9 hd9 hs9 => ?_
  have y9 : Stp (fun b => b = H.objs.size) g8 h8 g8 h9 := Stp.same x8.gh g8d rfl hs9 hd9
  have bd : h6.objs.size ≠ H.objs.size := fun q => by rw [← q, bn] at hd6; cases hd6
  have hx9 := y9.keep _ _ (fun q => by have q' : @Eq Nat (H.objs.size + 1) H.objs.size := q; omega) hx8
  have hb9 := y9.keep _ _ (fun q => bd q) hb8
  have W : Stp (isP C.p) g H g8 h9 := by
    have a := z5.trans y6 (W'' := fun b => isP C.p b ∨ b = H.objs.size) (fun _ _ _ q => .inl q) fun _ _ _ q => .inr q
    have b := (a.trans y7 (fun _ _ _ q => q) fun _ _ _ q => q.elim).trans x8 (fun _ _ _ q => q) fun _ _ _ q => .inl q
    have c := b.trans y9 (fun _ _ _ q => q) fun _ _ _ q => .inr q
    exact c.weak fun b o e q => q.elim id fun q => by rw [q, nd] at e; cases e
  obtain ⟨ga, W1, k1, ea, na⟩ := W.freeze nx hx9
  obtain ⟨gb, W2, k2, eb, nb⟩ := W1.freeze nd hd9
  have bH : H.get? h6.objs.size = none := by
    cases q : H.get? h6.objs.size with
    | none => rfl
    | some o => 
      obtain ⟨o', e'⟩ := (z5.weak (W' := fun _ => True) fun _ _ _ _ => trivial).ex _ _ q
      have := (y6.ex _ _ e')
      obtain ⟨o2, e2⟩ := this
      rw [bn] at e2; cases e2
  have g5b : g5.get? h6.objs.size = none := none_of_le y6.gh bn
  have g8b : g8.get? h6.objs.size = none := x8.new _ _ hb7 g5b
  have bx : h6.objs.size ≠ H.objs.size + 1 := fun q => by rw [← q, bn] at hx6; cases hx6
  have gab := na _ bx g8b
  have gbb := nb _ bd gab
  have hS : ST gb C.p l h9 := fun a e => by
    have S9 : ST g8 C.p l h9 := S8.step y9 fun a e q => pH _ nd (by rw [e, q])
    obtain ⟨q1, vs, q2, q3⟩ := S9 a e
    have ax : a ≠ H.objs.size + 1 := fun q => pH _ nx (by rw [e, q])
    have ad : a ≠ H.objs.size := fun q => pH _ nd (by rw [e, q])
    exact ⟨nb a ad (na a ax q1), vs, q2, (q3.mono k1).mono k2⟩
  refine wpAny_execs_nil ⟨rfl, k gb h9 _ _ h6.objs.size W2 hS bH gbb ⟨_, _, _, _, _, _, v', _, rfl, k2 _ _ ea, eb, VarP.mono _ _ _ hv' ((((x5.gg.trans y6.gg).trans x8.gg).trans k1).trans k2)⟩ ⟨_, hb9, _, rfl⟩⟩
end
end
section
section
variable {C : Cx} {n : Nat} {env : Env} {ρ : Rho} {l l' l₁ l₂ l₃ : List PyData}
theorem RelAt.at_ {V : Ways} {b : Addr} {g h : Heap} {u : Value} (R : RelAt C.prog C.w V b g u) (k : Le g h) : ∃ x dx k1 k2 h1 h2 v m, u = .ref x ∧ InstAt h x (instObj 60 dx) 60 (some (dictOf (relEs k1 k2 h1 h2 v b) m)) ∧ VarP C.prog C.w V g v := by
  obtain ⟨x, dx, k1, k2, h1, h2, v, m, e1, e2, e3, e4⟩ := R
  exact ⟨x, dx, k1, k2, h1, h2, v, m, e1, ⟨k _ _ e2, rfl, rfl, k _ _ e3⟩, e4⟩
theorem handed_of_VarP {prog : Program} {w : World} {V : Ways} {g : Heap} {v : Value} (h : VarP prog w V g v) : handedIn v = true := by obtain ⟨d, f, rfl, _⟩ := h; rfl

theorem EJ.attrV {y : Str} {py pos : Pos} {V : Ways} {b : Addr} (B : Bs C) (ho : EJ C n env ρ l (.Name y py) (relAV C V b) l') : EJ C n env ρ l (.Attribute (.Name y py) (Str.ofString "varied") pos) (varAV C V) l' := by
  refine ⟨?_⟩
  intro A s g Q E RM hg gh hF S k
  refine Attribute_any_ (ho.run A s g _ _ RM hg gh hF S fun u g1 h1 tk x S1 hu => ?_)
  obtain ⟨y, dx, k1, k2, q1, q2, v, m, rfl, I, hv⟩ := RelAt.at_ hu x.gh
  exact get_value (B.X.keeps ((hg.trans x.gg).trans x.gh)) I rfl (findObj_own rfl (attr := none) rfl rfl rfl) (handed_of_VarP hv) (k v g1 h1 _ x S1 hv)
theorem EJ.attrP {y : Str} {py pos : Pos} {V : Ways} {b : Addr} (B : Bs C) (ho : EJ C n env ρ l (.Name y py) (relAV C V b) l') : EJ C n env ρ l (.Attribute (.Name y py) (Str.ofString "pairs") pos) (.val (.ref b)) l' := by
  refine ⟨?_⟩
  intro A s g Q E RM hg gh hF S k
  refine Attribute_any_ (ho.run A s g _ _ RM hg gh hF S fun u g1 h1 tk x S1 hu => ?_)
  obtain ⟨y, dx, k1, k2, q1, q2, v, m, rfl, I, hv⟩ := RelAt.at_ hu x.gh
  exact get_value (B.X.keeps ((hg.trans x.gg).trans x.gh)) I rfl (findObj_own rfl (attr := none) rfl rfl rfl) rfl (k _ g1 h1 _ x S1 rfl)

/-- a call of a method of a Relation -/
theorem EJ.meth {o e : Expr} {rest : List Expr} {name : Str} {apos pos : Pos} {V : Ways} {b f : Addr} {as : List AV} {r : AV} {pl : Sem Bool} (B : Bs C) (ho : EJ C n env ρ l o (relAV C V b) l₁) (hf : findIn (KK C.w) (.ref 60) name = some (some (.ref f))) (ht : isFn (KK C.w) (.ref f) = true) (hkp : keepIn (KK C.w) (.ref f) = true)
    (hn : ∀ k1 k2 h1 h2 v, getL name (relEs k1 k2 h1 h2 v b) = some none) (ha : EsJ C n env ρ l₁ (e :: rest) as l₂) (hc : CJ C n (.ref f) (relAV C V b :: as) l₂ r l₃)
    (he : eval (.Call (.Attribute o name apos) (e :: rest) [] pos) env = (do
      let ov ← eval o env
      standAt apos.atName
      let (f, first) ← holding [ov] (getMethod ov name pl)
      callWith pos f first (backTo pos (starEach (e :: rest) env)) []))
    (hst : starEach (e :: rest) env = (false, eval e env) :: starEach rest env) (hpl : (backTo pos (starEach rest env)).any (·.1) = false) : EJ C n env ρ l (.Call (.Attribute o name apos) (e :: rest) [] pos) r l₃ := by
  refine ⟨?_⟩
  intro A s g Q E RM hg gh hF S k
  refine MethodCall_ (ho.run A s g _ _ RM hg gh hF S fun u g1 h1 tk x S1 hu => ?_) he
  obtain ⟨y, dx, k1, k2, q1, q2, v, m, rfl, I, hv⟩ := RelAt.at_ hu x.gh
  have X1 := B.X.keeps ((hg.trans x.gg).trans x.gh)
  refine method_fn X1 I rfl rfl hf (beq_iff_eq.mp ht) (by show (lookIn name (dictOf _ m)).map _ = _; rw [lookIn_dict, hn]; rfl) ?_
  refine callWith_K X1 hkp ((ha.run pos).run A _ g1 _ _ RM (hg.trans x.gg) x.gh (hF.stepP x) S1 fun vs g2 hp2 tk2 z S2 a2 => ⟨B.X.keeps (((hg.trans x.gg).trans z.gg).trans z.gh), ?_⟩) hst hpl
  exact (hc (.ref y :: vs)).run A _ g2 _ _ RM ((hg.trans x.gg).trans z.gg) z.gh ⟨RelAt.mono _ _ _ hu z.gg, a2⟩ S2 fun r g3 hp3 tk3 z3 S3 a3 => k r g3 hp3 tk3 ((x.trans' z).trans' z3) S3 a3

/-- append to the list that may change -/
theorem EJ.append {o e : Expr} {apos pos : Pos} {a : Addr} {d : PyData} {pl : Sem Bool} (hp : C.p = some a) (ho : EJ C n env ρ l o (.val (.ref a)) l₁) (ha : EsJ C n env ρ l₁ [e] [.dat d] l₂) (hz : l₂.length ≤ 100000)
    (he : eval (.Call (.Attribute o (Str.ofString "append") apos) [e] [] pos) env = (do
      let ov ← eval o env
      standAt apos.atName
      let (f, first) ← holding [ov] (getMethod ov (Str.ofString "append") pl)
      callWith pos f first (backTo pos (starEach [e] env)) []))
    (hst : starEach [e] env = (false, eval e env) :: starEach [] env) (hpl : (backTo pos (starEach [] env)).any (·.1) = false) : EJ C n env ρ l (.Call (.Attribute o (Str.ofString "append") apos) [e] [] pos) (.dat .none) (l₂ ++ [d]) := by
  refine ⟨?_⟩
  intro A s g Q E RM hg gh hF S k
  refine MethodCall_ (ho.run A s g _ _ RM hg gh hF S fun u g1 h1 tk x S1 hu => ?_) he
  cases hu
  obtain ⟨_, vs, ⟨oo, e1, m, rfl⟩, _⟩ := S1 a hp
  refine Calls.getMethod_list_append e1 rfl rfl ?_
  refine callWith_method1 ((ha.run pos).run A _ g1 _ _ RM (hg.trans x.gg) x.gh (hF.stepP x) S1 fun vs g2 hp2 tk2 z S2 a2 => ?_) hst hpl
  exact (append_J hp hz (.ref a :: vs)).run A _ g2 _ _ RM ((hg.trans x.gg).trans z.gg) z.gh ⟨rfl, a2⟩ S2 fun r g3 hp3 tk3 z3 S3 a3 => k r g3 hp3 tk3 ((x.trans' z).trans' z3) S3 a3

/-- not in the list that may change -/
theorem OJ2.ninM {a : Addr} {d : PyData} (hp : C.p = some a) (hx : PyData.canLayAll0 l = true) (hd : d.canLay0 = true) (hz : d.depth ≤ 64) : OJ2 C n (.dat d) (.val (.ref a)) l (compareOp .NotIn) (.dat (.bool (!l.any fun y => PyData.eqv y d))) l := by
  intro v u
  refine ⟨?_⟩
  intro A s g Q E RM hg gh hF S k
  obtain ⟨h1, rfl⟩ := hF
  obtain ⟨_, r1⟩ := Rd.up h1 gh
  obtain ⟨_, vs, ⟨oo, e1, m, rfl⟩, hr⟩ := S a hp
  obtain ⟨as, ra⟩ := hr.mono gh
  have r2 : Reads s.heap (.ref a) (.list l) (a :: as) := .list e1 rfl rfl (by simpa using ra)
  exact SeqAt.notIn_list_reads r2 r1 hx hd (room_min RM hz) (k _ g s.heap s.toks (Stp.refl gh) S Rd.bool)
end
section
variable {C : Cx} {n : Nat} {env : Env} {ρ ρ' : Rho} {l l' l₁ l₂ l₃ l₀ : List PyData} {fl : AFl}
/-- the context in which the list at b may change -/
abbrev Cx.at (C : Cx) (b : Addr) : Cx := { C with p := some b }
theorem Bs.at {C : Cx} (B : Bs C) (b : Addr) : Bs (C.at b) := ⟨B.X, B.T⟩
/-- an expression that makes a list of its own -/
structure NewJ (C : Cx) (n : Nat) (env : Env) (ρ : Rho) (l : List PyData) (e : Expr) (mk : Addr → AV) (l₀ : List PyData) : Prop where
  run : ∀ (A : Around) (s : Shared) (g : Heap) (Q : Value → Shared → Prop) (E : Value → Shared → Prop), Room n A → Le C.h₀ g → Le g s.heap → FR g C.p env ρ s.heap → ST g C.p l s.heap →
    (∀ u b g' h' tk, Stp (isP C.p) g s.heap g' h' → ST g' C.p l h' → s.heap.get? b = none → g'.get? b = none → AvR g' u (mk b) → (∃ vs, IsL h' b vs ∧ RdAll g' vs l₀) → Q u { s with heap := h', toks := tk }) → wpAny (model C.prog C.w) A (eval e env) Q E s

theorem fresh_core {x : Str} {px pos : Pos} {e : Expr} {rest : List Stmt} {mk : Addr → AV} {ρr : Addr → Rho} {lr : Addr → List PyData} {flr : Addr → AFl} (hx : StoreOk env x) (hs : swapsWith e (some (.Name x px)) pos.line env = Pure.pure false) (he : NewJ C n env ρ l e mk l₀)
    (hrest : ∀ b, BsJ (C.at b) n env ((x, mk b) :: ρ) l₀ rest (ρr b) (lr b) (flr b))
    {A : Around} {s : Shared} {g : Heap} {Q : Flow → Shared → Prop} {E : Value → Shared → Prop} (RM : Room n A) (hg : Le C.h₀ g) (gh : Le g s.heap) (hF : FR g C.p env ρ s.heap) (S : ST g C.p l s.heap)
    (k : ∀ b f g' h' tk, s.heap.get? b = none → Stp (WL C.p env) g s.heap g' h' → FR g' C.p env (ρr b) h' → ST g' C.p l h' → ST g' (some b) (lr b) h' → b ≠ env.locals → (∀ y, env.cells.lookup y ≠ some b) → C.p ≠ some b → FlR g' f (flr b) → Q f { s with heap := h', toks := tk }) :
    wpAny (model C.prog C.w) A (execs (.Assign [.Name x px] e pos :: rest) env) Q E s := by
  refine wpAny_execs_cons (wpAny_Assign_Name (he.run A s g _ _ RM hg gh hF S fun u b g1 h1 tk x1 S1 hb gb hu hL => ?_) hs)
  obtain ⟨vs, hL, hr⟩ := hL
  have bl : b ≠ env.locals := fun q => by obtain ⟨o, e⟩ := hF.has; rw [← q, hb] at e; cases e
  have bc : ∀ y, env.cells.lookup y ≠ some b := fun y q => by obtain ⟨_, _, _, o, _, e', _⟩ := hF.cg y b q; rw [hb] at e'; cases e'
  have bp : C.p ≠ some b := fun q => by obtain ⟨_, _, ⟨_, e', _⟩, _⟩ := S b q; rw [hb] at e'; cases e'
  refine store_J (s := { s with heap := h1, toks := tk }) hx x1.gh (hF.stepP x1) S1 hu fun h2 tk2 y F2 S2 => ?_
  have nW : ¬ WL C.p env b := fun q => by
    rcases q with q | q | ⟨_, z, q⟩
    · exact bp q
    · exact bl q
    · exact bc z q
  have sw : ∀ {g h : Heap} {ρ : Rho} {p p' : Option Addr}, FR g p env ρ h → p' ≠ some env.locals → (∀ y c, env.cells.lookup y = some c → p' ≠ some c) → FR g p' env ρ h := fun F a b => ⟨F.ns, F.cell, F.lg, a, fun y c e => let ⟨q1, _, q3⟩ := F.cg y c e; ⟨q1, b y c e, q3⟩, F.cu⟩
  have F2' : FR g1 (some b) env ((x, mk b) :: ρ) h2 := sw F2 (fun q => bl (Option.some.inj q)) fun y c e q => bc y (e.trans q.symm)
  have S2' : ST g1 (some b) l₀ h2 := fun a e => by
    cases e
    exact ⟨gb, vs, let ⟨o, e, q⟩ := hL; ⟨o, y.keep _ _ nW e, q⟩, hr⟩
  refine (hrest b).run A { s with heap := h2, toks := tk2 } g1 _ _ RM (hg.trans x1.gg) y.gh F2' S2' fun f g3 h3 tk3 z F3 S3 hf => ?_
  have T : Stp (WL C.p env) g s.heap g3 h3 := (x1.up.trans' y).trans z (fun _ _ _ q => q) fun a o e q => by
    rcases q with q | q | q
    · cases q; rw [hb] at e; cases e
    · exact .inr (.inl q)
    · exact .inr (.inr q)
  have F4 : FR g3 C.p env (ρr b) h3 := sw F3 hF.lp fun y c e => (hF.cg y c e).2.1
  have S4 : ST g3 C.p l h3 := S2.step z fun a e q => by
    rcases q with q | q | ⟨_, y, q⟩
    · cases q; exact bp e
    · exact hF.lp (by rw [e, q])
    · exact (hF.cg y a q).2.1 e
  exact k b f g3 h3 tk3 hb T F4 S4 S3 bl bc bp hf

/-- a list of its own is made, and what follows ends without it -/
theorem BsJ.fresh {x : Str} {px pos : Pos} {e : Expr} {rest : List Stmt} {mk : Addr → AV} {lr : Addr → List PyData} (hx : StoreOk env x) (hs : swapsWith e (some (.Name x px)) pos.line env = Pure.pure false) (he : NewJ C n env ρ l e mk l₀)
    (hrest : ∀ b, BsJ (C.at b) n env ((x, mk b) :: ρ) l₀ rest ρ' (lr b) fl) : BsJ C n env ρ l (.Assign [.Name x px] e pos :: rest) ρ' l fl := by
  refine ⟨?_⟩
  intro A s g Q E RM hg gh hF S k
  exact fresh_core (ρr := fun _ => ρ') (flr := fun _ => fl) hx hs he hrest RM hg gh hF S fun b f g' h' tk hb T F' S' _ _ _ _ hf => k f g' h' tk T F' S' hf
/-- a list of its own is made, and given back -/
theorem BsJ.freshRet {x : Str} {px pos : Pos} {e : Expr} {rest : List Stmt} {mk : Addr → AV} (hx : StoreOk env x) (hs : swapsWith e (some (.Name x px)) pos.line env = Pure.pure false) (he : NewJ C n env ρ l e mk l₀)
    (hrest : ∀ b, BsJ (C.at b) n env ((x, mk b) :: ρ) l₀ rest [] l₂ (.ret (.val (.ref b)))) : BsJ C n env ρ l (.Assign [.Name x px] e pos :: rest) [] l (.ret (.dat (.list l₂))) := by
  refine ⟨?_⟩
  intro A s g Q E RM hg gh hF S k
  refine fresh_core (ρr := fun _ => []) (lr := fun _ => l₂) (flr := fun b => .ret (.val (.ref b))) hx hs he hrest RM hg gh hF S fun b f g' h' tk hb T F' S' Sb bl bc bp hf => ?_
  cases f with
  | ret v =>
    cases hf
    obtain ⟨gb, vs, ⟨o, eo, m, rfl⟩, hr⟩ := Sb b rfl
    obtain ⟨g2, T2, gg, e2, n2⟩ := T.freeze hb eo
    obtain ⟨as, ra⟩ := hr.mono gg
    refine k (.ret (.ref b)) g2 h' tk T2 ⟨let ⟨m, hn, q⟩ := F'.ns; ⟨m, hn, fun y a e => nomatch e⟩, (fun y a e => nomatch e), n2 _ (fun q => bl q.symm) F'.lg, F'.lp, fun y c e => let ⟨q1, q2⟩ := F'.cg y c e; ⟨n2 c (fun q => bc y (q ▸ e)) q1, q2⟩, F'.cu⟩ (fun a e => ?_) ⟨_, .list e2 rfl rfl (by simpa using ra)⟩
    obtain ⟨q1, us, q2, q3⟩ := S' a e
    exact ⟨n2 a (fun q => bp (by rw [e, q])) q1, us, q2, q3.mono gg⟩
  | _ => exact hf.elim

theorem NewJ.relation {func e : Expr} {pos : Pos} {V : Ways} (B : Bs C) (hf : EJ C (n + 4) env ρ l func (.val (.ref 60)) l) (ha : EsJ C (n + 4) env ρ l [e] [varAV C V] l)
    (he : eval (.Call func [e] [] pos) env = (do callWith pos (← eval func env) [] (backTo pos (starEach [e] env)) (backToKw pos (keywordEach [] env))))
    (hst : starEach [e] env = (false, eval e env) :: starEach [] env) (hpl : (backTo pos (starEach [] env)).any (·.1) = false) : NewJ C (n + 4) env ρ l (.Call func [e] [] pos) (relAV C V) [] := by
  refine ⟨?_⟩
  intro A s g Q E RM hg gh hF S k
  refine Call_ (hf.run A s g _ _ RM hg gh hF S fun v g1 h1 tk x S1 a1 => ?_) he
  cases a1
  refine callWith_K (K := KK C.w) (B.X.keeps ((hg.trans x.gg).trans x.gh)) rfl ((ha.run pos).run A _ g1 _ _ RM (hg.trans x.gg) x.gh (hF.stepP x) S1 fun vs g2 h2 tk2 y S2 a2 => ⟨B.X.keeps (((hg.trans x.gg).trans y.gg).trans y.gh), ?_⟩) hst hpl
  obtain ⟨v, rfl, hv⟩ := a2.one
  refine relation_make B RM ((hg.trans x.gg).trans y.gg) y.gh S2 hv fun g3 h3 tk3 u b z S3 hb gb hR hL => ?_
  have xy := x.trans' y
  refine k u b g3 h3 tk3 (xy.trans' z) S3 ?_ gb hR ⟨[], hL, .nil⟩
  cases q : s.heap.get? b with
  | none => rfl
  | some o => obtain ⟨o', e'⟩ := xy.ex _ _ q; rw [hb] at e'; cases e'
end
end
section
/-! the pairs -/
abbrev PL := List (Int × Int)
abbrev pD (p : Int × Int) : PyData := .tuple [.int p.1, .int p.2]
abbrev pL (ps : PL) : List PyData := ps.map pD
def note (ps : PL) (a b : Int) : PL := if a ≠ b ∧ (a, b) ∉ ps then ps ++ [(a, b)] else ps
theorem note_len (ps : PL) (a b : Int) : (note ps a b).length ≤ ps.length + 1 := by
  unfold note; split
  · simp
  · omega
theorem eqv_pD (p q : Int × Int) : PyData.eqv (pD p) (pD q) = decide (p = q) := by
  obtain ⟨a, b⟩ := p; obtain ⟨c, d⟩ := q
  simp only [PyData.eqv, PyData.eqvAll, Prod.mk.injEq, Bool.and_true]
  by_cases h1 : a = c <;> by_cases h2 : b = d <;> simp [h1, h2]
theorem any_pL (ps : PL) (p : Int × Int) : ((pL ps).any fun y => PyData.eqv y (pD p)) = decide (p ∈ ps) := by
  induction ps with
  | nil => simp
  | cons q ps ih =>
    rw [show pL (q :: ps) = pD q :: pL ps from rfl, List.any_cons, ih, eqv_pD]
    by_cases h : q = p
    · subst h; simp
    · have h' : ¬ p = q := fun e => h e.symm
      simp [h, h']
theorem lay_pD (p : Int × Int) : (pD p).canLay0 = true := by simp [PyData.canLay0, PyData.canLayAll0]
theorem lay_pL (ps : PL) : PyData.canLayAll0 (pL ps) = true := by
  induction ps with
  | nil => simp [PyData.canLayAll0]
  | cons q ps ih => rw [show pL (q :: ps) = pD q :: pL ps from rfl]; simp only [PyData.canLayAll0, lay_pD, ih, Bool.and_self]
theorem depth_pD (p : Int × Int) : (pD p).depth ≤ 64 := by simp [PyData.depth, PyData.depthAll]
def regP (ps : PL) (a b : Int) (w : Way) : PL :=
  if w = .bi then ps else if w = .inn then note (note ps a b) b a else note ps a b
def innerW (a b : Way) : Way := if b = .bi then .bi else if a = .inn ∨ b = .inn then .inn else .co
def belowP (V : Ways) : Ty → Ty → Way → PL → PL
  | .ref r _ t, .ref r' m' u, w, ps => if w = .bi then ps else belowP V t u (if m' then .inn else w) (regP ps r r' w)
  | .box t, .box u, w, ps => if w = .bi then ps else belowP V t u w ps
  | .arr t, .arr u, w, ps => if w = .bi then ps else belowP V t u w ps
  | .tup a b, .tup a' b', w, ps => if w = .bi then ps else belowP V b b' w (belowP V a a' w ps)
  | .adt q r a b, .adt _ r' a' b', w, ps => if w = .bi then ps else belowP V b b' (innerW w (V q).2.2) (belowP V a a' (innerW w (V q).2.1) (regP ps r r' (innerW w (V q).1)))
  | _, _, _, ps => ps
section
variable {V : Ways} {t u a b a' b' : Ty} {r r' : Int} {m m' q q' : Bool} {w : Way} {ps : PL}
theorem belowP_int : belowP V .int .int w ps = ps := rfl
theorem belowP_ref : belowP V (.ref r m t) (.ref r' m' u) w ps = if w = .bi then ps else belowP V t u (if m' then .inn else w) (regP ps r r' w) := rfl
theorem belowP_box : belowP V (.box t) (.box u) w ps = if w = .bi then ps else belowP V t u w ps := rfl
theorem belowP_arr : belowP V (.arr t) (.arr u) w ps = if w = .bi then ps else belowP V t u w ps := rfl
theorem belowP_tup : belowP V (.tup a b) (.tup a' b') w ps = if w = .bi then ps else belowP V b b' w (belowP V a a' w ps) := rfl
theorem belowP_adt : belowP V (.adt q r a b) (.adt q' r' a' b') w ps = if w = .bi then ps else belowP V b b' (innerW w (V q).2.2) (belowP V a a' (innerW w (V q).2.1) (regP ps r r' (innerW w (V q).1))) := rfl
end
def Ty.cnt : Ty → Nat
  | .int => 0
  | .ref _ _ t => t.cnt + 2
  | .box t => t.cnt
  | .arr t => t.cnt
  | .tup a b => a.cnt + b.cnt
  | .adt _ _ a b => a.cnt + b.cnt + 2
theorem regP_len (ps : PL) (a b : Int) (w : Way) : (regP ps a b w).length ≤ ps.length + 2 := by
  have h1 := note_len ps a b
  have h2 := note_len (note ps a b) b a
  unfold regP; split
  · omega
  · split <;> omega
theorem belowP_len {V : Ways} {t u : Ty} (h : Sm t u) : ∀ w ps, (belowP V t u w ps).length ≤ ps.length + t.cnt := by
  induction h with
  | int => intro w ps; simp [belowP_int, belowP_ref, belowP_box, belowP_arr, belowP_tup, belowP_adt, Ty.cnt]
  | @ref r r' m m' t u h ih => intro w ps; have a := ih (if m' then .inn else w) (regP ps r r' w); have b := regP_len ps r r' w; simp only [belowP_int, belowP_ref, belowP_box, belowP_arr, belowP_tup, belowP_adt, Ty.cnt]; split <;> omega
  | @box t u h ih => intro w ps; have a := ih w ps; simp only [belowP_int, belowP_ref, belowP_box, belowP_arr, belowP_tup, belowP_adt, Ty.cnt]; split <;> omega
  | @arr t u h ih => intro w ps; have a := ih w ps; simp only [belowP_int, belowP_ref, belowP_box, belowP_arr, belowP_tup, belowP_adt, Ty.cnt]; split <;> omega
  | @tup a b a' b' h1 h2 ih1 ih2 => intro w ps; have x := ih1 w ps; have y := ih2 w (belowP V a a' w ps); simp only [belowP_int, belowP_ref, belowP_box, belowP_arr, belowP_tup, belowP_adt, Ty.cnt]; split <;> omega
  | @adt q r r' a b a' b' h1 h2 ih1 ih2 =>
    intro w ps
    have z := regP_len ps r r' (innerW w (V q).1)
    have x := ih1 (innerW w (V q).2.1) (regP ps r r' (innerW w (V q).1))
    have y := ih2 (innerW w (V q).2.2) (belowP V a a' (innerW w (V q).2.1) (regP ps r r' (innerW w (V q).1)))
    simp only [belowP_int, belowP_ref, belowP_box, belowP_arr, belowP_tup, belowP_adt, Ty.cnt]; split <;> omega

section
variable {C : Cx} {n : Nat} {l : List PyData}
theorem inner_J (B : Bs C) (a b : Way) : CJ C (n + 1) (.ref 71) [.dat a.d, .dat b.d] l (.dat (innerW a b).d) l := by
  refine CJ.body (fl := .ret _) B rfl rfl (binds_plain (xs := [Str.ofString "around", Str.ofString "inner"]) fun vs hl => ?_) (Nat.le_refl _) (by decide) (fun k => by walk_at "nzb") rfl (fun L => ?_) rfl rfl rfl
  · obtain ⟨_, _, rfl⟩ := len2 hl; rfl
  cases a <;> cases b
  all_goals first
    | (walk_at "nzy"
       walk_at "nzx"
       · rfl
       · rfl)
    | (walk_at "nzf"
       (with_reducible apply BsJ.ret)
       (with_reducible apply SJ.ret)
       (with_reducible apply EJ.to)
       · first
           | ((with_reducible apply EJ.ite_t)
              · walk_at "nzt"
              · walk_at "nz")
           | ((with_reducible apply EJ.ite_f)
              · walk_at "nzt"
              · walk_at "nz")
       · rfl
       · rfl)

theorem outl_J (B : Bs C) {V : Ways} {p : Addr} (hp : C.p = some p) {ps : PL} (hz : ps.length ≤ 50000) (a b : Int) : CJ C (n + 1) (.ref 35) [relAV C V p, .dat (.int a), .dat (.int b)] (pL ps) (.dat .none) (pL (note ps a b)) := by
  refine CJ.body (fl := .next) B rfl rfl (binds_plain (xs := [Str.ofString "self", Str.ofString "longer", Str.ofString "shorter"]) fun vs hl => ?_) (Nat.le_refl _) (by decide) (fun k => by walk_at "nzb") rfl (fun L => ?_) rfl rfl rfl
  · obtain ⟨_, _, _, rfl⟩ := len3 hl; rfl
  by_cases h1 : a = b
  · rw [show note ps a b = ps by simp [note, h1]]
    (with_reducible apply BsJ.cons)
    · (with_reducible apply SJ.ite_f)
      · (with_reducible apply BJ.and (c := false))
        · (with_reducible apply BJ.to)
          · walk_at "nz"
          · simp [h1]
        · intro q; cases q
        · intro _; exact ⟨rfl, rfl⟩
      · exact BsJ.nil
    · exact BsJ.nilE
  · by_cases h2 : (a, b) ∈ ps
    · rw [show note ps a b = ps by simp [note, h2]]
      (with_reducible apply BsJ.cons)
      · (with_reducible apply SJ.ite_f)
        · (with_reducible apply BJ.and (c := true))
          · (with_reducible apply BJ.to)
            · walk_at "nz"
            · simp [h1]
          · intro _
            (with_reducible apply BJ.and1)
            (with_reducible apply BJ.to)
            · (with_reducible apply BJ.cmp)
              · walk_at "nz"
              · (with_reducible apply EJ.attrP B)
                walk_at "nz"
              · exact OJ2.ninM hp (lay_pL ps) (lay_pD (a, b)) (depth_pD (a, b))
              · rfl
            · rw [any_pL ps (a, b)]; simp [h2]
          · intro q; cases q
        · exact BsJ.nil
      · exact BsJ.nilE
    · rw [show note ps a b = ps ++ [(a, b)] by simp [note, h1, h2], show pL (ps ++ [(a, b)]) = pL ps ++ [pD (a, b)] by simp]
      (with_reducible apply BsJ.cons)
      · (with_reducible apply SJ.ite_t)
        · (with_reducible apply BJ.and (c := true))
          · (with_reducible apply BJ.to)
            · walk_at "nz"
            · simp [h1]
          · intro _
            (with_reducible apply BJ.and1)
            (with_reducible apply BJ.to)
            · (with_reducible apply BJ.cmp)
              · walk_at "nz"
              · (with_reducible apply EJ.attrP B)
                walk_at "nz"
              · exact OJ2.ninM hp (lay_pL ps) (lay_pD (a, b)) (depth_pD (a, b))
              · rfl
            · rw [any_pL ps (a, b)]; simp [h2]
          · intro q; cases q
        · (with_reducible apply BsJ.cons)
          · (with_reducible apply SJ.expr)
            · (with_reducible apply EJ.append hp)
              · (with_reducible apply EJ.attrP B)
                walk_at "nz"
              · walk_at "nz"
              · rw [List.length_map]; omega
              · rfl
              · rfl
              · rfl
            · rfl
            · rfl
          · exact BsJ.nil
      · exact BsJ.nilE
end
end
local macro_rules | `(tactic| walk_at "nzc") => `(tactic| first
  | ((with_reducible apply outl_J) <;> first | assumption | omega)
  | ((with_reducible apply inner_J); assumption))
local macro_rules | `(tactic| walk_at "nzme") => `(tactic| ((with_reducible apply EJ.meth); (focus assumption); (focus walk_at "nz"); (focus exact rfl); (focus exact rfl); (focus exact rfl); (focus (intros; exact rfl)); (focus walk_at "nz"); (focus walk_at "nzc"); (focus exact rfl); (focus exact rfl); exact rfl))
section
section
variable {C : Cx} {n : Nat} {l : List PyData}
theorem way_bi {w : Way} (h : w ≠ .bi) : (w.s != Str.ofString "bi") = true ∧ (w.s == Str.ofString "bi") = false := by
  cases w
  · exact ⟨rfl, rfl⟩
  · exact ⟨rfl, rfl⟩
  · exact absurd rfl h
theorem region_J (B : Bs C) {V : Ways} {p : Addr} (hp : C.p = some p) {ps : PL} (hz : ps.length ≤ 49000) (a b : Int) (w : Way) : CJ C (n + 2) (.ref 42) [relAV C V p, .dat (.int a), .dat (.int b), .dat w.d] (pL ps) (.dat .none) (pL (regP ps a b w)) := by
  have h1 := note_len ps a b
  have hz1 : ps.length ≤ 50000 := by omega
  have hz2 : (note ps a b).length ≤ 50000 := by omega
  refine CJ.body (fl := .next) B rfl rfl (binds_plain (xs := [Str.ofString "self", Str.ofString "one", Str.ofString "other", Str.ofString "way"]) fun vs hl => ?_) (Nat.le_refl _) (by decide) (fun k => by walk_at "nzb") rfl (fun L => ?_) rfl rfl rfl
  · obtain ⟨_, _, _, _, rfl⟩ := len4 hl; rfl
  cases w with
  | bi =>
    walk_at "nzf"
    walk_at "nzf"
    exact BsJ.nilE
  | co =>
    (with_reducible apply BsJ.cons)
    · (with_reducible apply SJ.ite_t)
      · walk_at "nzt"
      · (with_reducible apply BsJ.cons)
        · (with_reducible apply SJ.expr)
          · walk_at "nzme"
          · rfl
          · rfl
        · exact BsJ.nil
    · walk_at "nzf"
      exact BsJ.nilE
  | inn =>
    (with_reducible apply BsJ.cons)
    · (with_reducible apply SJ.ite_t)
      · walk_at "nzt"
      · (with_reducible apply BsJ.cons)
        · (with_reducible apply SJ.expr)
          · walk_at "nzme"
          · rfl
          · rfl
        · exact BsJ.nil
    · (with_reducible apply BsJ.cons)
      · (with_reducible apply SJ.ite_t)
        · walk_at "nzt"
        · (with_reducible apply BsJ.cons)
          · (with_reducible apply SJ.expr)
            · walk_at "nzme"
            · rfl
            · rfl
          · exact BsJ.nil
      · exact BsJ.nilE
end
end
local macro_rules | `(tactic| walk_at "nzc") => `(tactic| ((with_reducible apply region_J) <;> first | assumption | omega))
section
theorem CJ.len1 {C : Cx} {n : Nat} {l : List PyData} {x : PyData} : CJ C n (.builtin "len") [.dat (.tuple [x])] l (.dat (.int 1)) l := CJ.lenT (ds := [x]) (by simp)
local macro_rules | `(tactic| walk_at "nzc") => `(tactic| (with_reducible exact CJ.len1))
local macro_rules | `(tactic| walk_at "nzse") => `(tactic| ((with_reducible apply BsJ.cons); (focus (with_reducible apply SJ.expr); (focus walk_at "nzme"); (focus exact rfl); exact rfl)))
section
variable {C : Cx} {n : Nat} {l : List PyData}
theorem OJ2.itemV' {value slice : Expr} {V : Ways} {q : Bool} (hs : PlainSub slice) : OJ2 C n (varAV C V) (.dat (.str (Ty.pS q))) l (subscriptTail value slice) (.dat (.tuple (wayL (V q)))) l := by
  have := OJ2.itemV (C := C) (n := n) (l := l) (value := value) (V := V) (q := q) hs
  rwa [Ty.pn_eq] at this
local macro_rules | `(tactic| walk_at "nzo") => `(tactic| (with_reducible apply OJ2.itemV'); (intro _ _; with_unfolding_all exact rfl))
theorem enumI_one {a : PyData} : enumI [a] = [.tup [.dat (.int 0), .dat a]] := rfl
theorem enumI_two {a b : PyData} : enumI [a, b] = [.tup [.dat (.int 0), .dat a], .tup [.dat (.int 1), .dat b]] := rfl
abbrev Below (C : Cx) (V : Ways) (p : Addr) (n : Nat) (t u : Ty) (w : Way) (x : Str) (ps : PL) : Prop := CJ C n (.ref 50) [relAV C V p, .dat t.dat, .dat u.dat, .dat (.str x)] (pL ps) (.dat .none) (pL (belowP V t u w ps))

/-- nothing is told where the way is bi, or of ints -/
local macro_rules | `(tactic| walk_at "nzbi") => `(tactic| (
  walk_at "nza"
  (with_reducible apply BsJ.ret)
  (with_reducible apply SJ.ite_t)
  · (with_reducible apply BJ.or (c := true))
    · (with_reducible apply BJ.to)
      · walk_at "nz"
      · rfl
    · intro q; cases q
    · intro _; exact ⟨rfl, rfl⟩
  · (with_reducible apply BsJ.ret)
    exact SJ.ret0))
/-- the way is not bi, and the kinds are the same -/
local macro_rules | `(tactic| walk_at "nzgo") => `(tactic| (
  walk_at "nza"
  (with_reducible apply BsJ.cons)
  · (with_reducible apply SJ.ite_f)
    · (with_reducible apply BJ.or (c := false))
      · (with_reducible apply BJ.to)
        · walk_at "nz"
        · assumption
      · intro _
        (with_reducible apply BJ.or1)
        (with_reducible apply BJ.to)
        · walk_at "nz"
        · rfl
      · intro q; cases q
    · exact BsJ.nil))
theorem BJ.or_f {x y : Expr} {pos : Pos} {env : Env} {ρ : Rho} {l₁ l₂ : List PyData} (h1 : BJ C n env ρ l x false l₁) (h2 : BJ C n env ρ l₁ y false l₂) : BJ C n env ρ l (.BoolOp .Or [x, y] pos) false l₂ :=
  BJ.or h1 (fun _ => BJ.or1 h2) fun q => by cases q
theorem BJ.or_t1 {x y : Expr} {pos : Pos} {env : Env} {ρ : Rho} {l₁ : List PyData} (h1 : BJ C n env ρ l x true l₁) : BJ C n env ρ l (.BoolOp .Or [x, y] pos) true l₁ :=
  BJ.or h1 (fun q => by cases q) fun _ => ⟨rfl, rfl⟩
theorem BJ.or_t2 {x y : Expr} {pos : Pos} {env : Env} {ρ : Rho} {l₁ l₂ : List PyData} (h1 : BJ C n env ρ l x false l₁) (h2 : BJ C n env ρ l₁ y true l₂) : BJ C n env ρ l (.BoolOp .Or [x, y] pos) true l₂ :=
  BJ.or h1 (fun _ => BJ.or1 h2) fun q => by cases q
theorem BJ.and_f {x y : Expr} {pos : Pos} {env : Env} {ρ : Rho} {l₁ : List PyData} (h1 : BJ C n env ρ l x false l₁) : BJ C n env ρ l (.BoolOp .And [x, y] pos) false l₁ :=
  BJ.and h1 (fun q => by cases q) fun _ => ⟨rfl, rfl⟩
theorem BJ.and_t {x y : Expr} {pos : Pos} {env : Env} {ρ : Rho} {l₁ l₂ : List PyData} {c : Bool} (h1 : BJ C n env ρ l x true l₁) (h2 : BJ C n env ρ l₁ y c l₂) : BJ C n env ρ l (.BoolOp .And [x, y] pos) c l₂ :=
  BJ.and h1 (fun _ => BJ.and1 h2) fun q => by cases q

theorem BsJ.one {st : Stmt} {env : Env} {ρ ρ' : Rho} {l l' : List PyData} (h : SJ C n env ρ l st ρ' l' .next) : BsJ C n env ρ l [st] ρ' l' .next := BsJ.cons h BsJ.nil
theorem BsJ.oneE {st : Stmt} {env : Env} {ρ ρ' : Rho} {l l' : List PyData} (h : SJ C n env ρ l st ρ' l' .next) : BsJ C n env ρ l [st] [] l' .next := BsJ.cons h BsJ.nilE
theorem below_bind4 (B : Bs C) {as : List AV} (hl : as.length = 4) : ∀ fd, (∃ oc od osl, (KK C.w).lookup 50 = some ⟨oc, od, .func fd, osl⟩) → ∀ (s : Shared) (g : Heap) (vs : List Value), Le C.h₀ s.heap → AvRs g vs as → ∃ us, BindsTo s fd ⟨vs, []⟩ ([Str.ofString "self", Str.ofString "one", Str.ofString "other", Str.ofString "way"].zip us) ∧ AvRs g us as := by
  rintro fd ⟨oc, od, osl, h⟩ s g vs hs hA
  refine ⟨vs, ?_, hA⟩
  have hv := avRs_length hA
  rw [hl] at hv
  obtain ⟨a, b, c, d, rfl⟩ := len4 hv
  · have key : ∀ {oc0 od0 osl0 fd0}, (KK C.w).lookup 50 = some ⟨oc0, od0, .func fd0, osl0⟩ → BindsTo s fd0 ⟨[a, b, c, d], []⟩ ([Str.ofString "self", Str.ofString "one", Str.ofString "other", Str.ofString "way"].zip [a, b, c, d]) →
        BindsTo s fd ⟨[a, b, c, d], []⟩ ([Str.ofString "self", Str.ofString "one", Str.ofString "other", Str.ofString "way"].zip [a, b, c, d]) := by
      intro oc0 od0 osl0 fd0 e q
      rw [h] at e; cases e; exact q
    exact key rfl (binds_K (B.X.keeps hs) rfl rfl rfl rfl rfl)
theorem below_gen (B : Bs C) {V : Ways} {p : Addr} (hp : C.p = some p) {t u : Ty} (hsm : Sm t u) : ∀ (n : Nat) (w : Way) (x : Str) (ps : PL) (as : List AV), x = w.s → 2 * t.ht + 4 ≤ n → ps.length + t.cnt ≤ 49000 →
    (∀ fd, (∃ oc od osl, (KK C.w).lookup 50 = some ⟨oc, od, .func fd, osl⟩) → ∀ (s : Shared) (g : Heap) (vs : List Value), Le C.h₀ s.heap → AvRs g vs as → ∃ us, BindsTo s fd ⟨vs, []⟩ ([Str.ofString "self", Str.ofString "one", Str.ofString "other", Str.ofString "way"].zip us) ∧ AvRs g us [relAV C V p, .dat t.dat, .dat u.dat, .dat (.str x)]) →
    CJ C n (.ref 50) as (pL ps) (.dat .none) (pL (belowP V t u w ps)) := by
  induction hsm with
  | int =>
    intro n w x ps as hx hn hz hb
    subst hx
    obtain ⟨n, rfl⟩ : ∃ m, n = m + 4 := ex_4 hn
    simp only [Ty.dat] at hb
    by_cases hw : w = .bi
    · subst hw
      rw [show belowP V _ _ .bi ps = ps by rfl]
      refine CJ.body (fl := .ret (.dat .none)) B rfl rfl (hb _ ⟨_, _, _, rfl⟩) (Nat.le_refl _) (by decide) (fun k => by walk_at "nzb") rfl (fun L => ?_) rfl rfl rfl
      walk_at "nzbi"
    · have hwb := (way_bi hw).2
      rw [show belowP V .int .int w ps = ps from rfl]
      refine CJ.body (fl := .next) B rfl rfl (hb _ ⟨_, _, _, rfl⟩) (Nat.le_refl _) (by decide) (fun k => by walk_at "nzb") rfl (fun L => ?_) rfl rfl rfl
      walk_at "nzgo"
      (with_reducible apply BsJ.oneE)
      (with_reducible apply SJ.ite_f)
      · walk_at "nzt"
      · (with_reducible apply BsJ.one)
        (with_reducible apply SJ.ite_f)
        · (with_reducible apply BJ.or_f) <;> walk_at "nzt"
        · (with_reducible apply BsJ.one)
          (with_reducible apply SJ.ite_f)
          · walk_at "nzt"
          · (with_reducible apply BsJ.one)
            (with_reducible apply SJ.ite_f)
            · (with_reducible apply BJ.and_f)
              walk_at "nzt"
            · exact BsJ.nil
  | @ref r r' m m' t u h ih =>
    intro n w x ps as hx hn hz hb
    subst hx
    obtain ⟨n, rfl⟩ : ∃ m, n = m + 4 := ex_4 hn
    simp only [Ty.dat] at hb
    by_cases hw : w = .bi
    · subst hw
      rw [show belowP V _ _ .bi ps = ps by rfl]
      refine CJ.body (fl := .ret (.dat .none)) B rfl rfl (hb _ ⟨_, _, _, rfl⟩) (Nat.le_refl _) (by decide) (fun k => by walk_at "nzb") rfl (fun L => ?_) rfl rfl rfl
      walk_at "nzbi"
    · have hwb := (way_bi hw).2
      have hin : ∀ ps : PL, ps.length + t.cnt ≤ 49000 → Below C V p (n + 3) t u .inn (Str.ofString "in") ps := fun ps hz => ih (n + 3) .inn _ ps _ rfl (hv_s hn) hz (below_bind4 B rfl)
      have hww : ∀ ps : PL, ps.length + t.cnt ≤ 49000 → Below C V p (n + 3) t u w w.s ps := fun ps hz => ih (n + 3) w _ ps _ rfl (hv_s hn) hz (below_bind4 B rfl)
      have hl1 := regP_len ps r r' w
      have hz1 : ps.length ≤ 49000 := by omega
      have hz2 : (regP ps r r' w).length + t.cnt ≤ 49000 := by simp only [Ty.cnt] at hz; omega
      clear ih
      rw [show belowP V (.ref r m t) (.ref r' m' u) w ps = belowP V t u (if m' then .inn else w) (regP ps r r' w) by rw [belowP_ref, if_neg hw]]
      refine CJ.body (fl := .next) B rfl rfl (hb _ ⟨_, _, _, rfl⟩) (Nat.le_refl _) (by decide) (fun k => by walk_at "nzb") rfl (fun L => ?_) rfl rfl rfl
      walk_at "nzgo"
      cases m' with
      | true =>
        (with_reducible apply BsJ.oneE)
        (with_reducible apply SJ.ite_t)
        · walk_at "nzt"
        · walk_at "nzse"
          walk_at "nzse"
          exact BsJ.nil
      | false =>
        (with_reducible apply BsJ.oneE)
        (with_reducible apply SJ.ite_t)
        · walk_at "nzt"
        · walk_at "nzse"
          walk_at "nzse"
          exact BsJ.nil
  | @box t u h ih =>
    intro n w x ps as hx hn hz hb
    subst hx
    obtain ⟨n, rfl⟩ : ∃ m, n = m + 4 := ex_4 hn
    simp only [Ty.dat] at hb
    by_cases hw : w = .bi
    · subst hw
      rw [show belowP V _ _ .bi ps = ps by rfl]
      refine CJ.body (fl := .ret (.dat .none)) B rfl rfl (hb _ ⟨_, _, _, rfl⟩) (Nat.le_refl _) (by decide) (fun k => by walk_at "nzb") rfl (fun L => ?_) rfl rfl rfl
      walk_at "nzbi"
    · have hwb := (way_bi hw).2
      have hww : ∀ ps : PL, ps.length + t.cnt ≤ 49000 → Below C V p (n + 3) t u w w.s ps := fun ps hz => ih (n + 3) w _ ps _ rfl (hv_s hn) hz (below_bind4 B rfl)
      have hz1 : ps.length + t.cnt ≤ 49000 := by simp only [Ty.cnt] at hz; omega
      clear ih
      rw [show belowP V (.box t) (.box u) w ps = belowP V t u w ps by rw [belowP_box, if_neg hw]]
      refine CJ.body (fl := .next) B rfl rfl (hb _ ⟨_, _, _, rfl⟩) (Nat.le_refl _) (by decide) (fun k => by walk_at "nzb") rfl (fun L => ?_) rfl rfl rfl
      walk_at "nzgo"
      (with_reducible apply BsJ.oneE)
      (with_reducible apply SJ.ite_f)
      · walk_at "nzt"
      · (with_reducible apply BsJ.one)
        (with_reducible apply SJ.ite_t)
        · (with_reducible apply BJ.or_t1)
          walk_at "nzt"
        · walk_at "nzse"
          exact BsJ.nil
  | @arr t u h ih =>
    intro n w x ps as hx hn hz hb
    subst hx
    obtain ⟨n, rfl⟩ : ∃ m, n = m + 4 := ex_4 hn
    simp only [Ty.dat] at hb
    by_cases hw : w = .bi
    · subst hw
      rw [show belowP V _ _ .bi ps = ps by rfl]
      refine CJ.body (fl := .ret (.dat .none)) B rfl rfl (hb _ ⟨_, _, _, rfl⟩) (Nat.le_refl _) (by decide) (fun k => by walk_at "nzb") rfl (fun L => ?_) rfl rfl rfl
      walk_at "nzbi"
    · have hwb := (way_bi hw).2
      have hww : ∀ ps : PL, ps.length + t.cnt ≤ 49000 → Below C V p (n + 3) t u w w.s ps := fun ps hz => ih (n + 3) w _ ps _ rfl (hv_s hn) hz (below_bind4 B rfl)
      have hz1 : ps.length + t.cnt ≤ 49000 := by simp only [Ty.cnt] at hz; omega
      clear ih
      rw [show belowP V (.arr t) (.arr u) w ps = belowP V t u w ps by rw [belowP_arr, if_neg hw]]
      refine CJ.body (fl := .next) B rfl rfl (hb _ ⟨_, _, _, rfl⟩) (Nat.le_refl _) (by decide) (fun k => by walk_at "nzb") rfl (fun L => ?_) rfl rfl rfl
      walk_at "nzgo"
      (with_reducible apply BsJ.oneE)
      (with_reducible apply SJ.ite_f)
      · walk_at "nzt"
      · (with_reducible apply BsJ.one)
        (with_reducible apply SJ.ite_t)
        · (with_reducible apply BJ.or_t2) <;> walk_at "nzt"
        · walk_at "nzse"
          exact BsJ.nil
  | @tup a b a' b' h1 h2 iha ihb =>
    intro n w x ps as hx hn hz hb
    subst hx
    obtain ⟨n, rfl⟩ : ∃ m, n = m + 4 := ex_4 hn
    simp only [Ty.dat] at hb
    by_cases hw : w = .bi
    · subst hw
      rw [show belowP V _ _ .bi ps = ps by rfl]
      refine CJ.body (fl := .ret (.dat .none)) B rfl rfl (hb _ ⟨_, _, _, rfl⟩) (Nat.le_refl _) (by decide) (fun k => by walk_at "nzb") rfl (fun L => ?_) rfl rfl rfl
      walk_at "nzbi"
    · have hwb := (way_bi hw).2
      have ha : ∀ ps : PL, ps.length + a.cnt ≤ 49000 → Below C V p (n + 3) a a' w w.s ps := fun ps hz => iha (n + 3) w _ ps _ rfl (hv_a hn) hz (below_bind4 B rfl)
      have hb' : ∀ ps : PL, ps.length + b.cnt ≤ 49000 → Below C V p (n + 3) b b' w w.s ps := fun ps hz => ihb (n + 3) w _ ps _ rfl (hv_b hn) hz (below_bind4 B rfl)
      have hl1 := belowP_len (V := V) h1 w ps
      have hz1 : ps.length + a.cnt ≤ 49000 := by simp only [Ty.cnt] at hz; omega
      have hz2 : (belowP V a a' w ps).length + b.cnt ≤ 49000 := by simp only [Ty.cnt] at hz; omega
      clear iha ihb
      rw [show belowP V (.tup a b) (.tup a' b') w ps = belowP V b b' w (belowP V a a' w ps) by rw [belowP_tup, if_neg hw]]
      refine CJ.body (fl := .next) B rfl rfl (hb _ ⟨_, _, _, rfl⟩) (Nat.le_refl _) (by decide) (fun k => by walk_at "nzb") rfl (fun L => ?_) rfl rfl rfl
      walk_at "nzgo"
      (with_reducible apply BsJ.oneE)
      (with_reducible apply SJ.ite_f)
      · walk_at "nzt"
      · (with_reducible apply BsJ.one)
        (with_reducible apply SJ.ite_f)
        · (with_reducible apply BJ.or_f) <;> walk_at "nzt"
        · (with_reducible apply BsJ.one)
          (with_reducible apply SJ.ite_t)
          · walk_at "nzt"
          · (with_reducible apply BsJ.one)
            (with_reducible apply SJ.for_)
            · (with_reducible apply IterJ.enumT)
              · walk_at "nz"
              · walk_at "nz"
              · rfl
              · rfl
            · first | rw [enumI_two] | rw [enumI_one]
              apply Loop.next
              · refine ⟨_, AsJ.pair (AsJ.name ⟨rfl, .inl rfl⟩) (AsJ.name ⟨rfl, .inl rfl⟩) rfl, ?_⟩
                walk_at "nzse"
                exact BsJ.nil
              · apply Loop.next
                · refine ⟨_, AsJ.pair (AsJ.name ⟨rfl, .inl rfl⟩) (AsJ.name ⟨rfl, .inl rfl⟩) rfl, ?_⟩
                  walk_at "nzse"
                  exact BsJ.nil
                · exact Loop.nil
            · intro _; rfl
  | @adt q r r' a b a' b' h1 h2 iha ihb =>
    intro n w x ps as hx hn hz hb
    subst hx
    obtain ⟨n, rfl⟩ : ∃ m, n = m + 4 := ex_4 hn
    simp only [Ty.dat, Ty.pn_eq] at hb
    by_cases hw : w = .bi
    · subst hw
      rw [show belowP V _ _ .bi ps = ps by rfl]
      refine CJ.body (fl := .ret (.dat .none)) B rfl rfl (hb _ ⟨_, _, _, rfl⟩) (Nat.le_refl _) (by decide) (fun k => by walk_at "nzb") rfl (fun L => ?_) rfl rfl rfl
      walk_at "nzbi"
    · have hwb := (way_bi hw).2
      have ha : ∀ (w : Way) (ps : PL), ps.length + a.cnt ≤ 49000 → Below C V p (n + 2) a a' w w.s ps := fun w ps hz => iha (n + 2) w _ ps _ rfl (hw_a hn) hz (below_bind4 B rfl)
      have hb' : ∀ (w : Way) (ps : PL), ps.length + b.cnt ≤ 49000 → Below C V p (n + 2) b b' w w.s ps := fun w ps hz => ihb (n + 2) w _ ps _ rfl (hw_b hn) hz (below_bind4 B rfl)
      have hl0 := regP_len ps r r' (innerW w (V q).1)
      have hl1 := belowP_len (V := V) h1 (innerW w (V q).2.1) (regP ps r r' (innerW w (V q).1))
      have hz0 : ps.length ≤ 49000 := by omega
      have hz1 : (regP ps r r' (innerW w (V q).1)).length + a.cnt ≤ 49000 := by simp only [Ty.cnt] at hz; omega
      have hz2 : (belowP V a a' (innerW w (V q).2.1) (regP ps r r' (innerW w (V q).1))).length + b.cnt ≤ 49000 := by simp only [Ty.cnt] at hz; omega
      clear iha ihb
      rw [show belowP V (.adt q r a b) (.adt q r' a' b') w ps = belowP V b b' (innerW w (V q).2.2) (belowP V a a' (innerW w (V q).2.1) (regP ps r r' (innerW w (V q).1))) by rw [belowP_adt, if_neg hw]]
      have parts : CJ C (n + 3) (.ref 57) [relAV C V p, .dat (.tuple [pS "adt", .str (Ty.pS q), .tuple [.int r], .tuple [a.dat, b.dat]]), .dat (.tuple [pS "adt", .str (Ty.pS q), .tuple [.int r'], .tuple [a'.dat, b'.dat]]), .dat (.str w.s)] (pL ps) (.dat .none)
          (pL (belowP V b b' (innerW w (V q).2.2) (belowP V a a' (innerW w (V q).2.1) (regP ps r r' (innerW w (V q).1))))) := by
        clear hb
        refine CJ.body (fl := .next) B rfl rfl (binds_plain (xs := [Str.ofString "self", Str.ofString "one", Str.ofString "other", Str.ofString "way"]) fun vs hl => ?_) (Nat.le_refl _) (by decide) (fun k => by walk_at "nzb") rfl (fun L => ?_) rfl rfl rfl
        · obtain ⟨_, _, _, _, rfl⟩ := len4 hl; rfl
        (with_reducible apply BsJ.cons)
        · (with_reducible apply SJ.assign)
          · (with_reducible apply EJ.sub_)
            · (with_reducible apply EJ.attrV B)
              walk_at "nz"
            · walk_at "nz"
            · walk_at "nz"
          · exact ⟨rfl, .inl rfl⟩
          · rfl
        · (with_reducible apply BsJ.cons)
          · (with_reducible apply SJ.for_)
            · (with_reducible apply IterJ.enumT)
              · walk_at "nz"
              · walk_at "nz"
              · rfl
              · rfl
            · first | rw [enumI_two] | rw [enumI_one]
              apply Loop.next
              · refine ⟨_, AsJ.pair (AsJ.name ⟨rfl, .inl rfl⟩) (AsJ.name ⟨rfl, .inl rfl⟩) rfl, ?_⟩
                walk_at "nzse"
                exact BsJ.nil
              · exact Loop.nil
            · intro _; rfl
          · (with_reducible apply BsJ.oneE)
            (with_reducible apply SJ.for_)
            · (with_reducible apply IterJ.enumT)
              · walk_at "nz"
              · walk_at "nz"
              · rfl
              · rfl
            · first | rw [enumI_two] | rw [enumI_one]
              apply Loop.next
              · refine ⟨_, AsJ.pair (AsJ.name ⟨rfl, .inl rfl⟩) (AsJ.name ⟨rfl, .inl rfl⟩) rfl, ?_⟩
                walk_at "nzse"
                exact BsJ.nil
              · apply Loop.next
                · refine ⟨_, AsJ.pair (AsJ.name ⟨rfl, .inl rfl⟩) (AsJ.name ⟨rfl, .inl rfl⟩) rfl, ?_⟩
                  walk_at "nzse"
                  exact BsJ.nil
                · exact Loop.nil
            · intro _; rfl
      clear ha hb'
      refine CJ.body (fl := .next) B rfl rfl (hb _ ⟨_, _, _, rfl⟩) (Nat.le_refl _) (by decide) (fun k => by walk_at "nzb") rfl (fun L => ?_) rfl rfl rfl
      walk_at "nzgo"
      (with_reducible apply BsJ.oneE)
      (with_reducible apply SJ.ite_f)
      · walk_at "nzt"
      · (with_reducible apply BsJ.one)
        (with_reducible apply SJ.ite_f)
        · (with_reducible apply BJ.or_f) <;> walk_at "nzt"
        · (with_reducible apply BsJ.one)
          (with_reducible apply SJ.ite_f)
          · walk_at "nzt"
          · (with_reducible apply BsJ.one)
            (with_reducible apply SJ.ite_t)
            · (with_reducible apply BJ.and_t)
              · walk_at "nzt"
              · (with_reducible apply BJ.to)
                · walk_at "nz"
                · exact beq_self_eq_true _
            · walk_at "nzse"
              exact BsJ.nil
end
end
section
section
variable {C : Cx} {n : Nat} {l : List PyData} {env : Env} {ρ : Rho}
theorem EJ.gRelation {pos : Pos} (B : Bs C) (hx : env.kindOf (Str.ofString "Relation") = some .globalImplicit) (hk : env.scope.kind = .function) (hg' : env.globals = mainGlobals) : EJ C n env ρ l (.Name (Str.ofString "Relation") pos) (.val (.ref 60)) l := EJ.glob B rfl hx hk hg' (by decide)
theorem below_bind3 (B : Bs C) {x y z : AV} : ∀ fd, (∃ oc od osl, (KK C.w).lookup 50 = some ⟨oc, od, .func fd, osl⟩) → ∀ (s : Shared) (g : Heap) (vs : List Value), Le C.h₀ s.heap → AvRs g vs [x, y, z] → ∃ us, BindsTo s fd ⟨vs, []⟩ ([Str.ofString "self", Str.ofString "one", Str.ofString "other", Str.ofString "way"].zip us) ∧ AvRs g us [x, y, z, .dat (.str (Way.co).s)] := by
  rintro fd ⟨oc, od, osl, h⟩ s g vs hs hA
  have hv := avRs_length hA
  obtain ⟨a, b, c, rfl⟩ := len3 hv
  · have key : ∀ {oc0 od0 osl0 fd0 binds}, (KK C.w).lookup 50 = some ⟨oc0, od0, .func fd0, osl0⟩ → BindsTo s fd0 ⟨[a, b, c], []⟩ binds → BindsTo s fd ⟨[a, b, c], []⟩ binds := by
      intro oc0 od0 osl0 fd0 binds e q
      rw [h] at e; cases e; exact q
    refine ⟨[a, b, c, .str (Str.ofString "co") _], key rfl (binds_K (B.X.keeps hs) rfl rfl rfl rfl rfl), hA.1, hA.2.1, hA.2.2.1, Rd.str, trivial⟩
theorem related_J (B : Bs C) (V : Ways) {t u : Ty} (hsm : Sm t u) (hc : t.cnt ≤ 49000) (hn : 2 * t.ht + 8 ≤ n) : CJ C n (.ref 78) [.dat t.dat, .dat u.dat, varAV C V] l (.dat (.list (pL (belowP V t u .co [])))) l := by
  obtain ⟨n, rfl⟩ : ∃ m, n = m + 5 := ⟨n - 5, by omega⟩
  refine CJ.body (fl := .ret _) B rfl rfl (binds_plain (xs := [Str.ofString "one", Str.ofString "other", Str.ofString "varied"]) fun vs hl => ?_) (Nat.le_refl _) (by decide) (fun k => by walk_at "nzb") rfl (fun L => ?_) rfl rfl rfl
  · obtain ⟨_, _, _, rfl⟩ := len3 hl; rfl
  refine BsJ.freshRet ⟨rfl, .inl rfl⟩ rfl (NewJ.relation (V := V) B (EJ.gRelation B rfl rfl rfl) (by walk_at "nz") rfl rfl rfl) fun b => ?_
  (with_reducible apply BsJ.cons)
  · (with_reducible apply SJ.expr)
    · (with_reducible apply EJ.meth (V := V) (b := b) (B.at b))
      · walk_at "nz"
      · rfl
      · rfl
      · rfl
      · intros; rfl
      · walk_at "nz"
      · exact below_gen (B.at b) rfl hsm (n + 4) .co _ [] _ rfl (by omega) (by simpa using hc) (below_bind3 (B.at b))
      · rfl
      · rfl
      · rfl
    · rfl
    · rfl
  · (with_reducible apply BsJ.ret)
    (with_reducible apply SJ.ret)
    (with_reducible apply EJ.attrP (V := V) (B.at b))
    walk_at "nz"
end
end
section
section
open PyProof.Rows
/-! sorted: what it gives is told by the order alone -/
def KrunT {α : Type} (lt : Nat → Nat → Bool) : KasT α → α
  | .ret a => a
  | .ask i j k => KrunT lt (k (lt i j))
def KokT {α : Type} (n : Nat) (P : α → Prop) : KasT α → Prop
  | .ret a => P a
  | .ask i j k => i < n ∧ j < n ∧ ∀ b, KokT n P (k b)
theorem KokT.mono {α : Type} {n : Nat} {P P' : α → Prop} (h : ∀ a, P a → P' a) : ∀ {t : KasT α}, KokT n P t → KokT n P' t
  | .ret _, x => h _ x
  | .ask _ _ _, x => ⟨x.1, x.2.1, fun b => KokT.mono h (x.2.2 b)⟩
theorem KokT.bind {α β : Type} {n : Nat} {P : α → Prop} {P' : β → Prop} {f : α → KasT β} (h : ∀ a, P a → KokT n P' (f a)) : ∀ {t : KasT α}, KokT n P t → KokT n P' (t.bind f)
  | .ret _, x => h _ x
  | .ask _ _ _, x => ⟨x.1, x.2.1, fun b => KokT.bind h (x.2.2 b)⟩
theorem KokT.run {α : Type} {n : Nat} {P : α → Prop} {lt : Nat → Nat → Bool} : ∀ {t : KasT α}, KokT n P t → P (KrunT lt t)
  | .ret _, x => x
  | .ask i j k, x => show P (KrunT lt (k (lt i j))) from KokT.run (t := k (lt i j)) (x.2.2 (lt i j))
def PermN (n : Nat) (p : Array Nat) : Prop := p.Perm (List.toArray (List.range n))
theorem PermN.lt {n : Nat} {p : Array Nat} (hn : 0 < n) (h : PermN n p) (i : Nat) : p.getD i 0 < n := by
  by_cases hi : i < p.size
  · have e : p.getD i 0 = p[i] := by simp [Array.getD, hi]
    have hm : p[i] ∈ p := Array.getElem_mem hi
    have := h.mem_iff.mp hm
    rw [e]; simpa using this
  · have e : p.getD i 0 = 0 := by simp [Array.getD, hi]
    omega
theorem PermN.rev {n : Nat} {p : Array Nat} (h : PermN n p) (i j : Nat) : PermN n (kas_rev p i j) := (mirror_perm p i j _).trans h
theorem PermN.bub {n : Nat} {p : Array Nat} (h : PermN n p) (k d : Nat) : PermN n (bubble p k d) := (bubble_perm p k d).trans h
theorem kas_asc_ok {n : Nat} {p : Array Nat} (hn : 0 < n) (h : PermN n p) : ∀ f m, KokT n (fun _ => True) (kas_asc p f m)
  | 0, _ => trivial
  | f + 1, m => ⟨h.lt hn _, h.lt hn _, fun b => by cases b; exact kas_asc_ok hn h f (m + 1); exact trivial⟩
theorem kas_desc_ok {n : Nat} (hn : 0 < n) : ∀ f p m q, PermN n p → KokT n (fun r => PermN n r.1) (kas_desc f p m q)
  | 0, p, m, q, h => h
  | f + 1, p, m, q, h => ⟨h.lt hn _, h.lt hn _, fun b => by
    cases b
    · exact ⟨h.lt hn _, h.lt hn _, fun b => by cases b; exact kas_desc_ok hn f p (m + 1) (q + 1) h; exact h⟩
    · show KokT n _ (if q > 0 then _ else _)
      split
      · exact kas_desc_ok hn f _ (m + 1) 0 (h.rev _ _)
      · exact kas_desc_ok hn f p (m + 1) 0 h⟩
theorem kas_tail3_ok {n m k : Nat} {p : Array Nat} (hn : 0 < n) (h : PermN n p) : KokT n (fun r : Nat × Array Nat => PermN n r.2) (kas_tail3 m k p) :=
  KokT.bind (P := fun _ => True) (P' := fun r : Nat × Array Nat => PermN n r.2) (f := fun k' => KasT.ret (k', kas_rev p 0 m)) (fun _ _ => h.rev 0 m) (kas_asc_ok hn (h.rev _ _) _ _)
theorem kas_descPart_ok {n m k : Nat} {p : Array Nat} (hn : 0 < n) (h : PermN n p) : KokT n (fun r : Nat × Array Nat => PermN n r.2) (kas_descPart m k p) := by
  refine KokT.bind (fun r hr => ?_) (kas_desc_ok hn _ p _ _ h)
  show KokT n _ (if _ then _ else _)
  split
  · exact kas_tail3_ok hn (hr.rev _ _)
  · exact kas_tail3_ok hn hr
theorem kas_count_ok {n k : Nat} {p : Array Nat} (hn : 0 < n) (h : PermN n p) : KokT n (fun r : Nat × Array Nat => PermN n r.2) (kas_count k p) := by
  refine KokT.bind (fun m _ => ?_) (kas_asc_ok hn h _ _)
  show KokT n _ (if _ then _ else if _ then _ else _)
  split
  · exact h
  · split
    · exact ⟨h.lt hn _, h.lt hn _, fun b => by cases b; exact kas_descPart_ok hn (h.rev _ _); exact h⟩
    · exact kas_descPart_ok hn h
theorem kas_place_ok {n k : Nat} {p : Array Nat} (hn : 0 < n) (h : PermN n p) : ∀ f l r, KokT n (fun _ => True) (kas_place p k f l r)
  | 0, _, _ => trivial
  | f + 1, l, r => by
    show KokT n _ (if _ then _ else _)
    split
    · exact trivial
    · exact ⟨h.lt hn _, h.lt hn _, fun b => by cases b; exact kas_place_ok hn h f _ _; exact kas_place_ok hn h f _ _⟩
theorem kas_bin_ok {n : Nat} (hn : 0 < n) : ∀ f p k, PermN n p → KokT n (PermN n) (kas_bin f p k)
  | 0, p, k, h => h
  | f + 1, p, k, h => KokT.bind (fun l _ => kas_bin_ok hn f _ (k + 1) (h.bub _ _)) (kas_place_ok hn h _ _ _)
theorem kas_sort_ok {n : Nat} (hn : 0 < n) : KokT n (PermN n) (kas_sort n) := by
  refine KokT.bind (fun r hr => ?_) (kas_count_ok hn (Array.Perm.refl _))
  show KokT n _ (if _ then _ else _)
  split
  · exact kas_bin_ok hn _ _ _ hr
  · exact hr
theorem kasWp_run {α : Type} {n : Nat} {cmp : Nat → Nat → (Bool → Shared → Prop) → Shared → Prop} {lt : Nat → Nat → Bool} {I : Shared → Prop} {P : α → Prop} {Q : α → Shared → Prop}
    (hc : ∀ i j C s, i < n → j < n → I s → (∀ s', I s' → C (lt i j) s') → cmp i j C s) : ∀ {t : KasT α} {s : Shared}, KokT n P t → (∀ s', I s' → Q (KrunT lt t) s') → I s → t.kasWp cmp Q s
  | .ret _, _, _, hq, hi => hq _ hi
  | .ask i j k, _, hk, hq, hi => hc i j _ _ hk.1 hk.2.1 hi fun s' hi' => kasWp_run hc (t := k (lt i j)) (hk.2.2 _) hq hi'

def ltP (x y : Int × Int) : Bool := if x.1 = y.1 then decide (x.2 < y.2) else decide (x.1 < y.1)
def ltI (ps : PL) (i j : Nat) : Bool := ltP (ps.getD i (0, 0)) (ps.getD j (0, 0))
/-- the pairs, sorted -/
def srt (ps : PL) : PL := if ps.length < 2 then ps else (KrunT (ltI ps) (kas_sort ps.length)).toList.map fun i => ps.getD i (0, 0)
theorem map_range_getD {α : Type} (d : α) (ps : List α) : (List.range ps.length).map (fun i => ps.getD i d) = ps := by
  apply List.ext_getElem
  · simp
  · intro i h1 h2
    simp [h2]
theorem srt_perm (ps : PL) : (srt ps).Perm ps := by
  unfold srt
  split
  · exact List.Perm.refl _
  · have h := (kas_sort_ok (n := ps.length) (by omega)).run (lt := ltI ps)
    have h' : (KrunT (ltI ps) (kas_sort ps.length)).toList.Perm (List.range ps.length) := by
      have := Array.perm_iff_toList_perm.mp h
      simpa using this
    have := h'.map fun i => ps.getD i (0, 0)
    rwa [map_range_getD] at this
end
end
section
section
open PyProof.Rows
variable {prog : Program} {w : World} {A : Around} {E : Value → Shared → Prop} {s : Shared}
theorem rd_pair {g h : Heap} {v : Value} {p : Int × Int} (x : Rd g v (pD p)) (k : Le g h) : ∃ a o n t u, v = .ref a ∧ h.get? a = some o ∧ o.cls = .type "tuple" ∧ o.data = .seq (List.toArray [.int p.1 t, .int p.2 u]) n := by
  obtain ⟨a, o, vs, n, rfl, e1, e2, e3, e4⟩ := x.tup_inv
  obtain ⟨v1, r1, rfl, q1, e4⟩ := e4.uncons
  obtain ⟨v2, r2, rfl, q2, e4⟩ := e4.uncons
  obtain rfl := e4.of_nil
  obtain ⟨t, rfl⟩ := q1.int_inv
  obtain ⟨u, rfl⟩ := q2.int_inv
  exact ⟨a, o, n, t, u, rfl, k _ _ e1, e2, e3⟩
theorem ask_pair {g : Heap} {vs : List Value} {ps : PL} (hr : RdAll g vs (pL ps)) (i j : Nat) (C : Bool → Shared → Prop) (s : Shared) (hi : i < ps.length) (hj : j < ps.length) (hs : Le g s.heap) (h : C (ltI ps i j) s) : kas_ask prog w A (tuples' true) vs i j C s := by
  have gi : (pL ps)[i]? = some (pD ps[i]) := by simp [hi]
  have gj : (pL ps)[j]? = some (pD ps[j]) := by simp [hj]
  obtain ⟨v, e1, r1⟩ := hr.get gi
  obtain ⟨u, e2, r2⟩ := hr.get gj
  have d1 : vs.getD i Value.none = v := by rw [List.getD_eq_getElem?_getD, e1]; rfl
  have d2 : vs.getD j Value.none = u := by rw [List.getD_eq_getElem?_getD, e2]; rfl
  have l1 : ps.getD i (0, 0) = ps[i] := by simp [hi]
  have l2 : ps.getD j (0, 0) = ps[j] := by simp [hj]
  unfold kas_ask
  rw [d1, d2]
  unfold ltI ltP at h
  rw [l1, l2] at h
  obtain ⟨a, o, n, t1, t2, rfl, b1, b2, b3⟩ := rd_pair r1 hs
  obtain ⟨a', o', n', t1', t2', rfl, c1, c2, c3⟩ := rd_pair r2 hs
  refine kat_lt b1 b3 c1 c3 ?_
  show KatLex prog w A true _ C [(Value.int ps[i].1 t1, Value.int ps[j].1 t1'), (Value.int ps[i].2 t2, Value.int ps[j].2 t2')] 0 s
  refine kat_cons (wpAny_eqBool_int ?_)
  by_cases q : ps[i].1 = ps[j].1
  · rw [if_pos q] at h
    rw [show (ps[i].1 == ps[j].1) = true by simp [q]]
    refine kat_yes (kat_cons (wpAny_eqBool_int ?_))
    by_cases q2 : ps[i].2 = ps[j].2
    · rw [show (ps[i].2 == ps[j].2) = true by simp [q2]]
      refine kat_yes (kat_nil ?_)
      have : decide (ps[i].2 < ps[j].2) = false := by simp [q2]
      rw [this] at h
      exact h
    · rw [show (ps[i].2 == ps[j].2) = false by simp [q2]]
      refine kat_no ?_
      refine kat_one _ _ ?_
      exact PyProof.Rows.lt_int h
  · rw [if_neg q] at h
    rw [show (ps[i].1 == ps[j].1) = false by simp [q]]
    refine kat_no ?_
    exact oneLt_int h
theorem firsts_of {g h : Heap} (k : Le g h) : ∀ {vs : List Value} {ps : PL}, RdAll g vs (pL ps) → ∃ fs, KatTups h vs fs ∧ fs.length = ps.length ∧ ∀ v ∈ fs, ∃ i t, v = .int i t
  | vs, [], x => by rw [x.of_nil]; exact ⟨[], trivial, rfl, fun v h => absurd h List.not_mem_nil⟩
  | vs, p :: ps, x => by
    obtain ⟨v, vs', rfl, a, b⟩ := RdAll.uncons x
    obtain ⟨fs, h1, h2, h3⟩ := firsts_of k b
    obtain ⟨ad, o, n, t, u, rfl, e1, e2, e3⟩ := rd_pair a k
    refine ⟨.int p.1 t :: fs, KatTups.cons e1 e2 e3 rfl h1, by simp [h2], fun v hv => ?_⟩
    rcases List.mem_cons.mp hv with rfl | hv
    · exact ⟨_, _, rfl⟩
    · exact h3 v hv
theorem rd_pick {g : Heap} {vs : List Value} {ps : PL} (hr : RdAll g vs (pL ps)) : ∀ {l : List Nat}, (∀ i ∈ l, i < ps.length) → RdAll g (l.map fun i => vs.getD i Value.none) (pL (l.map fun i => ps.getD i (0, 0)))
  | [], _ => .nil
  | i :: l, h => by
    have hi := h i List.mem_cons_self
    have gi : (pL ps)[i]? = some (pD ps[i]) := by simp [hi]
    obtain ⟨v, e1, r1⟩ := hr.get gi
    refine .cons ?_ (rd_pick hr fun j hj => h j (List.mem_cons_of_mem _ hj))
    show Rd g (vs.getD i Value.none) (pD (ps.getD i (0, 0)))
    rw [List.getD_eq_getElem?_getD, e1, show ps.getD i (0, 0) = ps[i] by simp [hi]]
    exact r1

theorem sort_J {D : Addr} {vs : List Value} {ps : PL} {g : Heap} {n : Nat} {P : PySem.Fin → Shared → Prop} (ho : s.heap.get? D = some (seqObj "list" vs.toArray n)) (hr : RdAll g vs (pL ps)) (gh : Le g s.heap) (hD : g.get? D = none) (h64 : ps.length < 64)
    (k : ∀ h' tk out c, h'.get? D = some (seqObj "list" (List.toArray out) c) → RdAll g out (pL (srt ps)) → (∀ b o, b ≠ D → s.heap.get? b = some o → h'.get? b = some o) → P (.done (.ret .none)) { s with heap := h', toks := tk }) :
    wpAny (model prog w) A (Builtin.«list.sort» ⟨[.ref D], []⟩) P E s := by
  have hlen : vs.length = ps.length := by have := hr.length; simpa using this
  have ha : D < s.heap.objs.size := Heap.lt_size ho
  have s1 := Heap.SameBut.update s.heap D (Obj.mapSeq fun _ => (#[] : Array Value))
  obtain ⟨e1, ho1⟩ : ∃ e1, (s.heap.update D (Obj.mapSeq fun _ => (#[] : Array Value))).get? D = some (seqObj "list" #[] e1) := ⟨_, get?_update_seq ho fun _ => #[]⟩
  have kk : ∀ b o, b ≠ D → s.heap.get? b = some o → (((s.heap.update D (Obj.mapSeq fun _ => (#[] : Array Value))).push (seqObj "tuple" vs.toArray 0)).push (seqObj "list" #[] 0)).get? b = some o := fun b o n e =>
    Heap.get?_push_of_some _ (Heap.get?_push_of_some _ ((s1.2 b n).trans e))
  have hD3 : (((s.heap.update D (Obj.mapSeq fun _ => (#[] : Array Value))).push (seqObj "tuple" vs.toArray 0)).push (seqObj "list" #[] 0)).get? D = some (seqObj "list" #[] e1) := Heap.get?_push_of_some _ (Heap.get?_push_of_some _ ho1)
  rw [list_sort_plain]
  refine wpAny_bind (listItems_at ho rfl ?_)
  refine wpAny_bind (listUpdate_at ho rfl ?_ (by rw [List.size_toArray, sizeLine_eq]; omega) (Nat.zero_le _))
  refine wpAny_bind (seqEpoch_at ho1 rfl ?_)
  refine wpAny_bind (wpAny_newTuple ?_ (by show vs.length ≤ _; rw [sizeLine_eq]; omega))
  refine wpAny_bind (wpAny_newList ?_ (Nat.zero_le _))
  refine wpAny_holding ?_
  show wpAny (model prog w) A _ P E { s with heap := ((s.heap.update D (Obj.mapSeq fun _ => (#[] : Array Value))).push (seqObj "tuple" vs.toArray 0)).push (seqObj "list" #[] 0) }
  dsimp only
  generalize ((s.heap.update D (Obj.mapSeq fun _ => (#[] : Array Value))).push (seqObj "tuple" vs.toArray 0)).push (seqObj "list" #[] 0) = h3 at kk hD3 ⊢
  have gh3 : Le g h3 := fun b o e => kk b o (fun q => by rw [q, hD] at e; cases e) (gh b o e)
  by_cases h2 : vs.toArray.size < 2
  · rw [if_pos h2, if_pos h2]
    have h2' : vs.length < 2 := by simpa using h2
    refine wpAny_bind (wpAny_pure ?_)
    rw [StateT.run_pure]
    refine wpAny_bind (wpAny_pure ?_)
    dsimp only
    refine wpAny_bind (seqEpoch_at hD3 rfl ?_)
    have eo : ((vs.toArray.zip vs.toArray).map fun x : Value × Value => x.2) = vs.toArray := by
      apply Array.ext'
      simp only [Array.toList_map, Array.toList_zip]
      exact List.map_snd_zip (by simp)
    have s2 := Heap.SameBut.update h3 D (Obj.mapSeq fun _ => vs.toArray)
    obtain ⟨c2, hc2⟩ : ∃ c2, (h3.update D (Obj.mapSeq fun _ => vs.toArray)).get? D = some (seqObj "list" vs.toArray c2) := ⟨_, get?_update_seq hD3 fun _ => vs.toArray⟩
    have fin := k (h3.update D (Obj.mapSeq fun _ => vs.toArray)) s.toks vs c2 hc2 (by rw [show srt ps = ps by unfold srt; rw [if_pos (by omega)]]; exact hr) fun b o nb e => (s2.2 b nb).trans (kk b o nb e)
    refine wpAny_bind (listUpdate_at hD3 rfl ?_ (Nat.zero_le _) (by rw [Array.size_map]; show (pairsOf vs).size ≤ _; rw [pairsOf_size, sizeLine_eq]; omega))
    simp only [bne_self_eq_false, Bool.false_eq_true, if_false]
    refine wpAny_pure ?_
    show P _ { s with heap := h3.update D (Obj.mapSeq fun _ => ((vs.toArray.zip vs.toArray).map fun x : Value × Value => x.2)) }
    rw [eo]
    exact fin
  · rw [if_neg h2, if_neg h2]
    have h2' : ¬ vs.length < 2 := by simpa using h2
    have hp : 0 < ps.length := by omega
    obtain ⟨fs, t1, t2, t3⟩ := firsts_of gh3 hr
    refine wpAny_bind (kat_kind (T := .type "int") t1 (by omega) (fun v hv => ?_) rfl ?_)
    · obtain ⟨i, t, rfl⟩ := t3 v hv
      exact Looks.of_pure rfl
    have ok : (kas_sort vs.length).kasWp (kas_ask prog w A (tuples' true) vs) (fun p s' => s' = { s with heap := h3 } ∧ p = KrunT (ltI ps) (kas_sort ps.length)) { s with heap := h3 } := by
      rw [hlen]
      exact kasWp_run (n := ps.length) (lt := ltI ps) (I := fun s' => s' = { s with heap := h3 }) (P := fun _ => True) (fun i j C s' hi hj hI hC => ask_pair hr i j C s' hi hj (by rw [hI]; exact gh3) (hC _ hI)) (KokT.mono (fun _ _ => trivial) (kas_sort_ok hp)) (fun s' hI => ⟨hI, rfl⟩) rfl
    refine wpAny_bind (wpAny_mono (kat_run (Q := fun st' s' => ∃ p : Array Nat, p.size = vs.length ∧ arrOf st' = p.map (kas_item (vs.toArray.zip vs.toArray)) ∧ failedOf st' = none ∧ s' = { s with heap := h3 } ∧ p = KrunT (ltI ps) (kas_sort ps.length))
      rfl (by omega) (by omega) (fun p' st' s' a1 a2 a3 a4 => ⟨p', a1, a2, a3, a4⟩) ok) ?_ fun _ _ e => e)
    rintro ⟨⟨⟩, st'⟩ s' ⟨p, hp', har, hf, rfl, rfl⟩
    dsimp only
    have hout := kat_snds rfl har
    generalize hpp : KrunT (ltI ps) (kas_sort ps.length) = p at hp' har hout
    have hpm : p.Perm (List.toArray (List.range ps.length)) := hpp ▸ (kas_sort_ok hp).run (lt := ltI ps)
    have hsz : (List.toArray (p.toList.map fun i => vs.getD i Value.none)).size = vs.length := by rw [List.size_toArray, List.length_map, Array.length_toList, hp']
    rw [hout]
    have s2 := Heap.SameBut.update h3 D (Obj.mapSeq fun _ => List.toArray (p.toList.map fun i => vs.getD i Value.none))
    obtain ⟨c2, hc2⟩ : ∃ c2, (h3.update D (Obj.mapSeq fun _ => List.toArray (p.toList.map fun i => vs.getD i Value.none))).get? D = some (seqObj "list" (List.toArray (p.toList.map fun i => vs.getD i Value.none)) c2) := ⟨_, get?_update_seq hD3 fun _ => List.toArray (p.toList.map fun i => vs.getD i Value.none)⟩
    refine wpAny_bind (seqEpoch_at hD3 rfl ?_)
    refine wpAny_bind (listUpdate_at hD3 rfl ?_ (Nat.zero_le _) (Nat.le_trans (Nat.le_of_eq hsz) (by rw [sizeLine_eq]; omega)))
    rw [hf]
    simp only [bne_self_eq_false, Bool.false_eq_true, if_false]
    refine wpAny_pure (k _ s.toks _ c2 hc2 ?_ fun b o nb e => (s2.2 b nb).trans (kk b o nb e))
    have es : srt ps = p.toList.map fun i => ps.getD i (0, 0) := by unfold srt; rw [if_neg (by omega), hpp]
    rw [es]
    exact rd_pick hr fun i hi => by
      have := hpm.mem_iff.mp (Array.mem_toList_iff.mp hi)
      simpa using this
end
section
variable {C : Cx} {n : Nat} {l : List PyData}
theorem CJ.sortedP {ps : PL} (h64 : ps.length < 64) : CJ C n (.builtin "sorted") [.dat (.list (pL ps))] l (.dat (.list (pL (srt ps)))) l := by
  intro vs
  refine ⟨?_⟩
  intro A s g Q E RM hg gh hF S k
  obtain ⟨v, rfl, h⟩ := hF.one
  obtain ⟨a, vs, rfl, hl, hr⟩ := Rd.isLst h gh
  have hlen : vs.length = ps.length := by have := hr.length; simpa using this
  refine Calls.call_function_entry kind_sorted plain_sorted entry_sorted (args_sorted1 _) ?_
  unfold Builtin.«sorted»
  refine wpAny_bind (m := checkCount "sorted" 1 1 _) (wpAny_pure ?_)
  refine wpAny_bind (collect_list hl ?_ (by rw [sizeLine_eq]; omega))
  refine wpAny_bind (wpAny_newList ?_ (by rw [sizeLine_eq]; omega))
  have keep0 : Le s.heap ((s.heap.push (seqObj "list" #[] 0)).update s.heap.objs.size (Obj.mapSeq (· ++ vs.toArray))) := fun b o q => by
    have hlt : b < s.heap.objs.size := Heap.lt_size q
    rw [Heap.get?_update_ne _ _ _ _ (Nat.ne_of_lt hlt), Heap.get?_push_ne _ _ _ (Nat.ne_of_lt hlt)]
    exact q
  generalize (s.heap.push (seqObj "list" #[] 0)).update s.heap.objs.size (Obj.mapSeq (· ++ vs.toArray)) = h1 at keep0 ⊢
  have x1 : Stp (isP C.p) g s.heap g h1 := Stp.keeps gh keep0
  have hD : (h1.push (seqObj "list" vs.toArray 0)).get? h1.objs.size = some (seqObj "list" vs.toArray 0) := Heap.get?_push_size _ rfl
  have x2 : Stp (isP C.p) g h1 g (h1.push (seqObj "list" vs.toArray 0)) := Stp.push x1.gh _
  have hn1 : h1.get? h1.objs.size = none := fresh_none (Nat.le_refl _)
  have S1 := S.step (Stp.keeps (W := fun _ => False) gh keep0) fun _ _ q => q
  have S2 := S1.step (Stp.push (W := fun _ => False) x1.gh (seqObj "list" vs.toArray 0)) fun _ _ q => q
  have pD' : C.p ≠ some h1.objs.size := fun q => by obtain ⟨_, _, ⟨_, e', _⟩, _⟩ := S1 _ q; rw [hn1] at e'; cases e'
  refine wpAny_bind (wpAny_holding (wpAny_call_entry slot_list_sort ⟨_, hD, rfl⟩ entry_list_sort (sort_J hD hr x2.gh (none_of_le x1.gh hn1) h64 fun h' tk out c e1 e2 e3 => ⟨_, rfl, wpAny_pure ⟨_, rfl, ?_⟩⟩) (args_list_sort _)))
  have gD : g.get? h1.objs.size = none := none_of_le x1.gh hn1
  have y : Stp (fun b => b = h1.objs.size) g (h1.push (seqObj "list" vs.toArray 0)) g h' := ⟨Le.rfl, fun b o e => e3 b o (fun q => by rw [q, gD] at e; cases e) (x2.gh b o e), fun b o nb e => e3 b o nb e, fun _ _ _ e => e, fun b o e => by
    by_cases q : b = h1.objs.size
    · exact ⟨_, q ▸ e1⟩
    · exact ⟨o, e3 b o q e⟩⟩
  have sD : s.heap.get? h1.objs.size = none := by
    cases q : s.heap.get? h1.objs.size with
    | none => rfl
    | some o => rw [keep0 _ _ q] at hn1; cases hn1
  have z : Stp (isP C.p) g s.heap g h' := ((x1.trans' x2).trans y (W'' := fun b => isP C.p b ∨ b = h1.objs.size) (fun _ _ _ q => .inl q) fun _ _ _ q => .inr q).weak fun b o e q => q.elim id fun q => by rw [q, sD] at e; cases e
  obtain ⟨g2, z2, gg, e2', n2⟩ := z.freeze sD e1
  obtain ⟨as, ra⟩ := e2.mono gg
  have S3 := S2.step y fun a e q => pD' (by rw [e, q])
  refine k _ g2 h' tk z2 (fun b e => ?_) ⟨_, .list e2' rfl rfl (by simpa using ra)⟩
  obtain ⟨q1, us, q2, q3⟩ := S3 b e
  exact ⟨n2 b (fun q => pD' (by rw [e, q])) q1, us, q2, q3.mono gg⟩
end
end
local macro_rules | `(tactic| walk_at "nzc") => `(tactic| ((with_reducible apply CJ.sortedP); assumption))
section
def SubL (ρ : Rho) : Rho → Prop
  | [] => True
  | (x, a) :: r => ρ.lookup x = some a ∧ SubL ρ r
theorem SubL.get {ρ : Rho} : ∀ {ρ' : Rho} {x : Str} {a : AV}, SubL ρ ρ' → ρ'.lookup x = some a → ρ.lookup x = some a
  | [], _, _, _, e => by cases e
  | (y, d) :: r, x, c, h, e => by
    rw [List.lookup_cons] at e
    cases q : x == y with
    | true => rw [q] at e; cases e; rw [beq_iff_eq.mp q]; exact h.1
    | false => rw [q] at e; exact SubL.get h.2 e
abbrev PW := (Int × Way) × (Int × Way)
def dueP (ps : PL) (zs : List PW) : PL := zs.foldl (fun ps x => regP ps x.1.1 x.2.1 x.1.2) ps
theorem dueP_len : ∀ (zs : List PW) (ps : PL), (dueP ps zs).length ≤ ps.length + 2 * zs.length
  | [], ps => by simp [dueP]
  | z :: zs, ps => by
    have h := dueP_len zs (regP ps z.1.1 z.2.1 z.1.2)
    have h2 := regP_len ps z.1.1 z.2.1 z.1.2
    show (dueP (regP ps z.1.1 z.2.1 z.1.2) zs).length ≤ _
    simp only [List.length_cons]; omega
section
variable {C : Cx} {n : Nat} {l : List PyData} {env : Env} {ρ : Rho}
theorem zipI_pl (xs ys : List (Int × Way)) : zipI (plL xs) (plL ys) = (xs.zip ys).map fun z => IV.tup [.dat (plD z.1), .dat (plD z.2)] := by
  unfold zipI plL
  rw [List.zip_map, List.map_map]
  rfl
def rowOk (ps : PL) (a b : Int) : Bool := decide (a ≠ b ∧ (a, b) ∉ ps)
theorem note_eq (ps : PL) (a b : Int) : pL (note ps a b) = pL ps ++ (if rowOk ps a b then [pD (a, b)] else []) := by
  unfold note rowOk
  by_cases h : a ≠ b ∧ (a, b) ∉ ps
  · rw [if_pos h, decide_eq_true h]; simp
  · rw [if_neg h, decide_eq_false h]; simp
theorem rowOk_two (ps : PL) (a b : Int) : rowOk (note ps a b) b a = rowOk ps b a := by
  unfold rowOk note
  split
  · rename_i h
    have : (b, a) ≠ (a, b) := fun e => h.1 (Prod.mk.inj e).2
    simp [this]
  · rfl
theorem regP_eq (ps : PL) (a b : Int) (w : Way) : pL (regP ps a b w) = pL ps ++ (match w with | .bi => [] | .co => if rowOk ps a b then [pD (a, b)] else [] | .inn => (if rowOk ps a b then [pD (a, b)] else []) ++ (if rowOk ps b a then [pD (b, a)] else [])) := by
  cases w
  · exact note_eq ps a b
  · show pL (note (note ps a b) b a) = _
    rw [note_eq, rowOk_two, note_eq, List.append_assoc]
  · simp [regP]
end
end
section
section
variable {C : Cx} {n : Nat} {l : List PyData} {env : Env} {ρ : Rho}
theorem CJ.to {f : Value} {as : List AV} {r r' : AV} {l l' : List PyData} (h : CJ C n f as l r l') (e : r = r') : CJ C n f as l r' l' := e ▸ h
/-- the test of a row -/
theorem row_test {x y : Expr} {pos : Pos} {a b : Int} {ps : PL} (h1 : BJ C n env ρ l x (decide (a ≠ b)) l) (h2 : BJ C n env ρ l y (!(pL ps).any fun q => PyData.eqv q (pD (a, b))) l) : BJ C n env ρ l (.BoolOp .And [x, y] pos) (rowOk ps a b) l := by
  refine BJ.and (c := decide (a ≠ b)) (l₁ := l) h1 (fun q => BJ.to (BJ.and1 h2) ?_) fun q => ⟨?_, rfl⟩
  · rw [any_pL]
    have : a ≠ b := of_decide_eq_true q
    unfold rowOk
    by_cases h : (a, b) ∈ ps <;> simp [this, h]
  · have : ¬ a ≠ b := of_decide_eq_false q
    unfold rowOk
    simp [this]
theorem Loop.fold {α β : Type} {stp : IV → Rho → List PyData → AFl → Rho → List PyData → Prop} {item : β → IV} {upd : α → β → α} {R : α → Rho} {ok : α → List β → Prop} {l : List PyData} (h : ∀ a z zs, ok a (z :: zs) → stp (item z) (R a) l .next (R (upd a z)) l ∧ ok (upd a z) zs) :
    ∀ (zs : List β) (a : α), ok a zs → Loop stp (zs.map item) (R a) l .next (R (zs.foldl upd a)) l
  | [], _, _ => Loop.nil
  | z :: zs, a, o => Loop.next (h a z zs o).1 (Loop.fold h zs (upd a z) (h a z zs o).2)
theorem bne_dec (a b : Int) : (a != b) = decide (a ≠ b) := by
  by_cases h : a = b <;> simp [h]
end
section
variable {C : Cx} {l : List PyData}
theorem due_J (B : Bs C) (V : Ways) {t u : Ty} (hsm : Sm t u) (hsm' : Sm u u) (n : Nat) (h1 : t.ht ≤ 10) (h2 : u.ht ≤ 10) (hn : 14 ≤ n) (h64 : (dueP [] ((places V t u .co).zip (places V u u .co))).length < 64) :
    CJ C n (.ref 128) [.dat t.dat, .dat u.dat, varAV C V] l (.dat (.list (pL (srt (dueP [] ((places V t u .co).zip (places V u u .co))))))) l := by
  obtain ⟨n, rfl⟩ : ∃ m, n = m + 1 := ⟨n - 1, by omega⟩
  have p1 : CJ C n (.ref 116) [.dat t.dat, .dat u.dat, varAV C V, .dat (.str (Str.ofString "co"))] l (.dat (.list (plL (places V t u .co)))) l := places_J B V hsm n .co (by omega) h1
  have p2 : CJ C n (.ref 116) [.dat u.dat, .dat u.dat, varAV C V, .dat (.str (Str.ofString "co"))] l (.dat (.list (plL (places V u u .co)))) l := places_J B V hsm' n .co (by omega) h2
  have hlen : ((places V t u .co).zip (places V u u .co)).length ≤ 2048 := by
    have x := places_len (V := V) hsm .co
    have y : 2 ^ (t.ht + 1) ≤ 2 ^ 11 := Nat.pow_le_pow_right (by decide) (by omega)
    rw [List.length_zip]; omega
  refine CJ.body (fl := .ret _) B rfl rfl (binds_plain (xs := [Str.ofString "one", Str.ofString "other", Str.ofString "varied"]) fun vs hl => ?_) (Nat.le_refl _) (by decide) (fun k => by walk_at "nzb") rfl (fun L => ?_) rfl rfl rfl
  · obtain ⟨_, _, _, rfl⟩ := len3 hl; rfl
  walk_at "nza"
  refine BsJ.makeFor (ρ₂ := (Str.ofString "found", .dat (.list (pL (dueP [] ((places V t u .co).zip (places V u u .co)))))) :: [(Str.ofString "one", .dat t.dat), (Str.ofString "other", .dat u.dat), (Str.ofString "varied", varAV C V)])
    (ivs := zipI (plL (places V t u .co)) (plL (places V u u .co))) (l₁ := l) (l₂ := l) ⟨rfl, .inl rfl⟩ rfl (by decide) rfl rfl ?_ ?_ (fun _ => rfl) ?_
  · (with_reducible apply MakeJ.zip2)
    · walk_at "nz"
    · walk_at "nz"
    · rfl
    · rfl
    · rfl
  · rw [zipI_pl]
    generalize (places V t u .co).zip (places V u u .co) = zs at hlen h64 ⊢
    refine Loop.fold (item := fun z : PW => IV.tup [.dat (plD z.1), .dat (plD z.2)]) (upd := fun (ps : PL) (x : PW) => regP ps x.1.1 x.2.1 x.1.2) (R := fun ps => (Str.ofString "found", .dat (.list (pL ps))) :: [(Str.ofString "one", .dat t.dat), (Str.ofString "other", .dat u.dat), (Str.ofString "varied", varAV C V)])
      (ok := fun (ps : PL) (zs : List PW) => ps.length + 2 * zs.length ≤ 20000) (fun ps z zs hz => ?_) zs [] (by simpa using by omega)
    obtain ⟨⟨a, w⟩, b, w'⟩ := z
    have hr := regP_len ps a b w
    simp only [List.length_cons] at hz
    refine ⟨⟨_, AsJ.pair (AsJ.pairD (AsJ.pair (AsJ.name ⟨rfl, .inl rfl⟩) (AsJ.name ⟨rfl, .inl rfl⟩) rfl)) (AsJ.pairD (AsJ.pair (AsJ.name ⟨rfl, .inl rfl⟩) (AsJ.name ⟨rfl, .inl rfl⟩) rfl)) rfl, ?_⟩, by dsimp only; omega⟩
    dsimp only
    rw [regP_eq]
    cases w with
    | bi =>
      walk_at "nza"
      (with_reducible apply BsJ.cons)
      · (with_reducible apply SJ.assign)
        · (with_reducible apply EJ.bin)
          · walk_at "nz"
          · (with_reducible apply EJ.to (a' := .dat (.list [])) (l₂ := l))
            · (with_reducible apply EJ.comp1)
              · walk_at "nzcomp"
              · intro _; rfl
              · walk_at "nzi"
              · intro Cf
                exact CLoop.nil
              · first | exact Nat.le_of_ble_eq_true rfl | ((repeat' split) <;> simp)
            · first | rfl | (congr 2; simp)
            · rfl
          · (with_reducible apply OJ2.catL)
            rw [List.length_map]
            first | (simp only [List.length_nil]; omega) | (((repeat' split) <;> simp); all_goals omega)
        · exact ⟨rfl, .inr ⟨rfl, rfl, rfl⟩⟩
        · rfl
      · exact BsJ.nil.sub fun x a e => SubL.get (by exact ⟨rfl, rfl, rfl, rfl, trivial⟩) e
    | co =>
      walk_at "nza"
      (with_reducible apply BsJ.cons)
      · (with_reducible apply SJ.assign)
        · (with_reducible apply EJ.bin)
          · walk_at "nz"
          · (with_reducible apply EJ.to (a' := .dat (.list (if rowOk ps a b then [pD (a, b)] else []))) (l₂ := l))
            · (with_reducible apply EJ.comp1)
              · walk_at "nzcomp"
              · intro _; rfl
              · walk_at "nzi"
              · intro Cf
                apply CLoop.cons
                · apply CStep.test1 (ok := rowOk ps a b) (l₁ := l)
                  · exact ⟨rfl, .inl rfl⟩
                  · rfl
                  · refine row_test ?_ ?_
                    · (with_reducible apply BJ.to)
                      · walk_at "nz"
                      · exact bne_dec _ _
                    · (with_reducible apply BJ.cmp)
                      · walk_at "nz"
                      · walk_at "nz"
                      · exact OJ2.ninl (lay_pL ps) (lay_pD (a, b)) (depth_pD (a, b))
                      · rfl
                  · intro _; walk_at "nz"
                  · intro _; rfl
                · exact CLoop.nil
              · first | exact Nat.le_of_ble_eq_true rfl | ((repeat' split) <;> simp)
            · first | rfl | (congr 2; simp)
            · rfl
          · (with_reducible apply OJ2.catL)
            rw [List.length_map]
            first | (simp only [List.length_nil]; omega) | (((repeat' split) <;> simp); all_goals omega)
        · exact ⟨rfl, .inr ⟨rfl, rfl, rfl⟩⟩
        · rfl
      · exact BsJ.nil.sub fun x a e => SubL.get (by exact ⟨rfl, rfl, rfl, rfl, trivial⟩) e
    | inn =>
      walk_at "nza"
      (with_reducible apply BsJ.cons)
      · (with_reducible apply SJ.assign)
        · (with_reducible apply EJ.bin)
          · walk_at "nz"
          · (with_reducible apply EJ.to (a' := .dat (.list ((if rowOk ps a b then [pD (a, b)] else []) ++ (if rowOk ps b a then [pD (b, a)] else [])))) (l₂ := l))
            · (with_reducible apply EJ.comp1)
              · walk_at "nzcomp"
              · intro _; rfl
              · walk_at "nzi"
              · intro Cf
                apply CLoop.cons
                · apply CStep.test1 (ok := rowOk ps a b) (l₁ := l)
                  · exact ⟨rfl, .inl rfl⟩
                  · rfl
                  · refine row_test ?_ ?_
                    · (with_reducible apply BJ.to)
                      · walk_at "nz"
                      · exact bne_dec _ _
                    · (with_reducible apply BJ.cmp)
                      · walk_at "nz"
                      · walk_at "nz"
                      · exact OJ2.ninl (lay_pL ps) (lay_pD (a, b)) (depth_pD (a, b))
                      · rfl
                  · intro _; walk_at "nz"
                  · intro _; rfl
                · apply CLoop.cons
                  · apply CStep.test1 (ok := rowOk ps b a) (l₁ := l)
                    · exact ⟨rfl, .inl rfl⟩
                    · rfl
                    · refine row_test ?_ ?_
                      · (with_reducible apply BJ.to)
                        · walk_at "nz"
                        · exact bne_dec _ _
                      · (with_reducible apply BJ.cmp)
                        · walk_at "nz"
                        · walk_at "nz"
                        · exact OJ2.ninl (lay_pL ps) (lay_pD (b, a)) (depth_pD (b, a))
                        · rfl
                    · intro _; walk_at "nz"
                    · intro _; rfl
                  · exact CLoop.nil
              · first | exact Nat.le_of_ble_eq_true rfl | ((repeat' split) <;> simp)
            · first | rfl | (congr 2; simp)
            · rfl
          · (with_reducible apply OJ2.catL)
            rw [List.length_map]
            first | (simp only [List.length_nil]; omega) | (((repeat' split) <;> simp); all_goals omega)
        · exact ⟨rfl, .inr ⟨rfl, rfl, rfl⟩⟩
        · rfl
      · exact BsJ.nil.sub fun x a e => SubL.get (by exact ⟨rfl, rfl, rfl, rfl, trivial⟩) e
  · walk_at "nzx"
    · rfl
    · rfl
end
end
section
section
open PyProof.Rows
variable {prog : Program} {w : World} {A : Around} {E : Value → Shared → Prop} {s : Shared}
theorem list_no_keys : typeLookup (.type "list") "keys" = pure none := am_miss_of_fast (by kernel_rfl)
theorem keys_none {a : Addr} {xs : Array Value} {k : Nat} {sl : Array (Option Value)} {Q : Option Value → Shared → Prop} (hx : s.heap.get? a = some { cls := .type "list", dict := none, data := .seq xs k, slots := sl }) (hA : A.handled = none)
    (h : ∀ h' tk, (∀ b o, s.heap.get? b = some o → h'.get? b = some o) → Q none { s with heap := h', toks := tk }) : wpAny (model prog w) A (getAttr? (.ref a) "keys") Q E s := by
  obtain ⟨hp, g, d, tk, os⟩ := s
  have hT : ∀ tk', (⟨hp, g, d, tk', os⟩ : Shared).TypeIs (.ref a) "list" := fun _ => ⟨_, hx, rfl⟩
  have f1 := sub_AttributeError
  have f3 := F.slot_list_getattribute.lookup
  have f4 := F.slot_list_getattribute.bind (.ref a)
  have f5 := am_list_getattr_none
  unfold getAttr? getAttrBy? getAttrBy
  repeat (any_goals (first | assumption | exact hT _ | ((with_reducible show wpAny _ _ (call (Value.builtin "list.__getattribute__") _ _) _ _ _); refine call_meets F.slot_list_getattribute (hT _) am_entry_list_getattribute (F.args_list_getattribute_2 _ _) (meets_getattribute_miss_list a xs k sl "keys" _ list_no_keys (by decide) (by size_fits)) ⟨hx, hA, fun h' tk' e hx' => ?_⟩) | wp_step))
  obtain ⟨t', u', he⟩ := id hx'.there
  show wpAny _ _ (getattributeRaised _ _ _ _ _ _ _) _ _ _
  unfold getattributeRaised
  repeat (any_goals (first | assumption | wp_step))
  exact h _ _ hx'.keeps

theorem plain_upd : plainId "dict.update.loop" = true := by decide +kernel
theorem entry_upd : entryFor table "dict.update.loop" = some Builtin.«dict.update.loop» := entryFor_of_tree (by kernel_rfl)
/-- the pairs, each once -/
def uniq (ks : PL) (ps : PL) : PL := ps.foldl (fun acc p => if p ∈ acc then acc else acc ++ [p]) ks
abbrev kP (p : Int × Int) : List Int := [p.1, p.2]
theorem kP_inj {p q : Int × Int} (h : kP p = kP q) : p = q := by
  obtain ⟨a, b⟩ := p; obtain ⟨c, d⟩ := q
  simpa using h
noncomputable abbrev tk_ (prog : Program) (w : World) : HeapKind prog w (List Int) := tupleKind (PySem.intKind prog w)
def KeysP (xs : List (List Int × Addr × Value)) (ks : PL) : Prop := xs.map (·.1) = ks.map kP
theorem isKey {g h : Heap} {v : Value} {p : Int × Int} (x : Rd g v (pD p)) (k : Le g h) : ∃ a, v = .ref a ∧ (tk_ prog w).is h (kP p) a := by
  obtain ⟨a, o, n, t, u, rfl, e1, e2, e3⟩ := rd_pair x k
  exact ⟨a, rfl, o, _, n, e1, e2, e3, .cons (by simp [PySem.intKind, Value.isInt]) (.cons (by simp [PySem.intKind, Value.isInt]) .nil)⟩
theorem keys_stored {xs : List (List Int × Addr × Value)} {ks : PL} {p : Int × Int} {a : Addr} {v : Value} (h : KeysP xs ks) : KeysP (storedH xs (kP p) a v) (if p ∈ ks then ks else ks ++ [p]) := by
  have hm : (kP p ∈ xs.map (·.1)) ↔ p ∈ ks := by
    rw [h]
    constructor
    · intro m
      obtain ⟨q, hq, e⟩ := List.mem_map.mp m
      rw [← kP_inj e]; exact hq
    · intro m; exact List.mem_map_of_mem m
  unfold storedH
  have hs : (atKey xs (kP p)).isSome = true ↔ kP p ∈ xs.map (·.1) := by
    unfold atKey
    rw [Option.isSome_map, List.find?_isSome]
    constructor
    · rintro ⟨x, hx, e⟩; exact List.mem_map.mpr ⟨x, hx, of_decide_eq_true e⟩
    · intro m
      obtain ⟨x, hx, e⟩ := List.mem_map.mp m
      exact ⟨x, hx, decide_eq_true e⟩
  by_cases q : p ∈ ks
  · rw [if_pos (hs.mpr (hm.mpr q)), if_pos q]
    show (xs.map (putAt (kP p) v)).map (·.1) = _
    rw [keys_map_putAt]; exact h
  · rw [if_neg (fun e => q (hm.mp (hs.mp e))), if_neg q]
    show (xs ++ [(kP p, a, v)]).map (·.1) = _
    rw [List.map_append, h]; simp
end
end
section
section
open PyProof.Rows
variable {prog : Program} {w : World} {A : Around} {E : Value → Shared → Prop}
abbrev rowT (p : Int × Int) : PyData := .tuple [pD p, .bool true]
theorem rd_row {g h : Heap} {v : Value} {p : Int × Int} (x : Rd g v (rowT p)) (k : Le g h) : ∃ a o n kv, v = .ref a ∧ h.get? a = some o ∧ o.cls = .type "tuple" ∧ o.data = .seq (List.toArray [kv, .bool true]) n ∧ Rd g kv (pD p) := by
  obtain ⟨a, o, vs, n, rfl, e1, e2, e3, e4⟩ := x.tup_inv
  obtain ⟨v1, r1, rfl, q1, e4⟩ := e4.uncons
  obtain ⟨v2, r2, rfl, q2, e4⟩ := e4.uncons
  obtain rfl := e4.of_nil
  obtain rfl := q2.bool_inv
  exact ⟨a, o, n, v1, rfl, k _ _ e1, e2, e3, q1⟩
theorem upd_loop {g : Heap} {I a d : Addr} {vs : List Value} {ps : PL} {R : Result → Shared → Prop} (hA : A.handled = none) (hu : A.units + 1 < cLine) (hr : RdAll g vs (ps.map rowT)) (ha : ∃ o, g.get? a = some o) (hd : g.get? d = none) (hI : g.get? I = none) (hne : I ≠ d) (hz : ps.length ≤ 100000) :
    ∀ (m i : Nat) (j : Int) (t : Tok) (s : Shared) (ks : PL) (xs : List (List Int × Addr × Value)), m + i = ps.length → s.heap.IsListIter I a i → s.heap.IsList a vs.toArray → s.heap.DictOfH (tk_ prog w) d xs → KeysP xs ks → xs.length ≤ i → Le g s.heap → (∀ x ∈ xs, (tk_ prog w).is g x.1 x.2.1) →
      (∀ h' tk xs', h'.DictOfH (tk_ prog w) d xs' → KeysP xs' (uniq ks (ps.drop i)) → (∀ x ∈ xs', (tk_ prog w).is g x.1 x.2.1) → (∀ b o, b ≠ d → b ≠ I → s.heap.get? b = some o → h'.get? b = some o) → R (.ok (.ret .none)) { s with heap := h', toks := tk }) →
      codeAny (model prog w) A (.builtin "dict.update.loop" ⟨[.ref d, .ref I, .int j t, .none], []⟩) R s := by
  have hlen : vs.length = ps.length := by have := hr.length; simpa using this
  have hai : a ≠ I := fun q => by obtain ⟨o, e⟩ := ha; rw [q, hI] at e; cases e
  have had : a ≠ d := fun q => by obtain ⟨o, e⟩ := ha; rw [q, hd] at e; cases e
  intro m
  induction m with
  | zero =>
    intro i j t s ks xs hm hit hl hD hK hx gh hG k
    refine codeAny_builtin entry_upd ?_
    rw [Around.under_plainId plain_upd _]
    unfold Builtin.«dict.update.loop»
    show wpAny _ _ (pyNext (.ref I) >>= _) _ _ s
    refine wpAny_bind (wpAny_pyNext_list_end (A := A.in1) hA hit hl (by simp; omega) fun h' hk => ?_)
    show wpAny _ _ (Builtin.Dict.addKeywords d [] >>= _) _ _ _
    refine wpAny_bind (wpAny_pure (wpAny_pure ?_))
    obtain ⟨o, es, ep, e1, e2, e3, e4, e5, e6⟩ := hD
    refine k h' s.toks xs ⟨o, es, ep, hk d o hne.symm e1, e2, e3, e4, fun x hx => ?_, e6⟩ ?_ hG fun b o _ nI e => hk b o nI e
    · obtain ⟨ob, it, n, q1, q2, q3, q4⟩ := e5 x hx
      refine ⟨ob, it, n, hk _ _ (fun q => ?_) q1, q2, q3, q4⟩
      obtain ⟨oi, f1, f2, _⟩ := hit
      rw [q, f1] at q1
      cases q1; rw [f2] at q2; exact absurd q2 (by simp)
    · rw [List.drop_of_length_le (by omega)]; exact hK
  | succ m ih =>
    intro i j t s ks xs hm hit hl hD hK hx gh hG k
    have hi : i < ps.length := by omega
    have gi : (ps.map rowT)[i]? = some (rowT ps[i]) := by simp [hi]
    obtain ⟨v, ev, rv⟩ := hr.get gi
    refine codeAny_builtin entry_upd ?_
    rw [Around.under_plainId plain_upd _]
    unfold Builtin.«dict.update.loop»
    show wpAny _ _ (pyNext (.ref I) >>= _) _ _ s
    refine wpAny_bind (wpAny_pyNext_list_item hit hl (x := v) (by simpa using ev) fun h1 hit1 hs1 => ?_)
    have g1 : Le g h1 := fun b o e => hs1.extBut b o (fun q => by rw [q, hI] at e; cases e) (gh b o e)
    obtain ⟨ra, ro, rn, kv, rfl, b1, b2, b3, rk⟩ := rd_row rv g1
    obtain ⟨ka, rfl, hkey⟩ := isKey (prog := prog) (w := w) rk g1
    have hkg : (tk_ prog w).is g (kP ps[i]) ka := by
      obtain ⟨kb, e, q⟩ := isKey (prog := prog) (w := w) rk Le.rfl
      cases e; exact q
    dsimp only
    refine wpAny_bind (wpAny_holding (wpAny_bind (wpAny_tryCatch ?_)))
    unfold Builtin.Dict.pairItems
    refine wpAny_bind (wpAny_typeOf (T := "tuple") ⟨ro, b1, b2⟩ ?_)
    rw [if_pos (by decide)]
    refine wpAny_bind (wpAny_seqItems b1 b3 (wpAny_pure ?_))
    show wpAny _ _ (holding [Value.ref ka, Value.bool true] (dictSet d (.ref ka) (.bool true))) _ _ _
    have hD1 : h1.DictOfH (tk_ prog w) d xs := by
      obtain ⟨o, es, ep, e1, e2, e3, e4, e5, e6⟩ := hD
      refine ⟨o, es, ep, hs1.extBut d o hne.symm e1, e2, e3, e4, fun x hx => ?_, e6⟩
      obtain ⟨ob, it, n, q1, q2, q3, q4⟩ := e5 x hx
      refine ⟨ob, it, n, hs1.extBut _ _ (fun q => ?_) q1, q2, q3, q4⟩
      obtain ⟨oi, f1, f2, _⟩ := hit
      rw [q, f1] at q1
      cases q1; rw [f2] at q2; exact absurd q2 (by simp)
    refine wpAny_holding (wpAny_dictSet_heap (s := { s with heap := h1 }) (knd := tk_ prog w) (by show A.units + 1 < cLine; exact hu) hkey hD1 (fun h2 hD2 hs2 => ?_) (by rw [sizeLine_eq]; omega))
    refine wpAny_pure ⟨plainId_quiet plain_upd _, ?_⟩
    have g2 : Le g h2 := fun b o e => hs2.extBut b o (fun q => by rw [q, hd] at e; cases e) (g1 b o e)
    have hit2 : h2.IsListIter I a (i + 1) := let ⟨o, e, q⟩ := hit1; ⟨o, hs2.extBut I o hne e, q⟩
    have hl2 : h2.IsList a vs.toArray := let ⟨o, e, q⟩ := hl; ⟨o, hs2.extBut a o had (hs1.extBut a o hai e), q⟩
    refine ih (i + 1) (j + 1) 0 _ (if ps[i] ∈ ks then ks else ks ++ [ps[i]]) _ (by omega) hit2 hl2 hD2 (keys_stored hK) ?_ g2 ?_ fun h' tk xs' hD' hK' hG' hk' => ?_
    · unfold storedH
      split
      · rw [List.length_map]; omega
      · simp only [List.length_append, List.length_cons, List.length_nil]; omega
    · intro x hx
      unfold storedH at hx
      split at hx
      · obtain ⟨y, hy, rfl⟩ := List.mem_map.mp hx
        unfold putAt
        split <;> exact hG y hy
      · rcases List.mem_append.mp hx with hx | hx
        · exact hG x hx
        · rw [List.mem_singleton.mp hx]; exact hkg
    · refine k h' tk xs' hD' ?_ hG' fun b o nd nI e => hk' b o nd nI (hs2.extBut b o nd (hs1.extBut b o nI e))
      rw [List.drop_eq_getElem_cons hi]
      exact hK'
end
end
section
section
open PyProof.Rows
def DicP (prog : Program) (w : World) (ks : PL) : Heap → Value → Prop := fun g v => ∃ d xs, v = .ref d ∧ (d == sysModules) = false ∧ g.DictOfH (tk_ prog w) d xs ∧ KeysP xs ks
theorem DicP.mono {prog : Program} {w : World} {ks : PL} : ∀ g g' v, DicP prog w ks g v → Le g g' → DicP prog w ks g' v := by
  rintro g g' v ⟨d, xs, e, e0, ⟨o, es, ep, e1, e2, e3, e4, e5, e6⟩, h⟩ k
  exact ⟨d, xs, e, e0, ⟨o, es, ep, k _ _ e1, e2, e3, e4, fun x hx => let ⟨ob, it, n, q1, q⟩ := e5 x hx; ⟨ob, it, n, k _ _ q1, q⟩, e6⟩, h⟩
abbrev dicAV (C : Cx) (ks : PL) : AV := .inv (DicP C.prog C.w ks) DicP.mono
variable {C : Cx} {n : Nat} {l : List PyData}
theorem CJ.dictP (B : Bs C) {ps : PL} (hz : ps.length ≤ 100000) : CJ C n (.type "dict") [lstN (ps.map rowT)] l (dicAV C (uniq [] ps)) l := by
  intro vs
  refine ⟨?_⟩
  intro A s g Q E RM hg gh hF S k
  obtain ⟨v, rfl, h⟩ := hF.one
  obtain ⟨hr, o', eo', no'⟩ := h
  obtain ⟨a, o, vs, m, rfl, e2, e3, e4, e5⟩ := Rd.lst_inv hr
  have eo : g.get? a = some o' := eo'
  rw [e2] at eo; cases eo
  obtain ⟨oc, od, oda, osl⟩ := o'
  simp only at e3 e4 no'
  subst e3 e4 no'
  obtain ⟨pr, loose, mg, mb, T⟩ := B.T
  have hmod : sysModules < s.heap.objs.size := modules_low (T.nolimit.keeps (hg.trans gh))
  have hnd : ((s.heap.objs.size : Addr) == sysModules) = false := beq_eq_false_iff_ne.mpr (Nat.ne_of_gt hmod)
  refine callType_codes (Q₁ := fun obj s₁ => obj = .ref s.heap.objs.size ∧ s₁ = { s with heap := s.heap.push { cls := .type "dict", data := .dict #[] } }) F.kt_called_dict (F.kt_typeCall_dict_1 _) F.entry_dict_init (kt_code_dict_new _ ⟨rfl, rfl⟩) ?_
  rintro obj s₁ ⟨rfl, rfl⟩
  have hdn : s.heap.get? s.heap.objs.size = none := fresh_none (Nat.le_refl _)
  have gdn : g.get? s.heap.objs.size = none := none_of_le gh hdn
  have hd0 : (s.heap.push { cls := .type "dict", data := .dict #[] }).get? s.heap.objs.size = some { cls := .type "dict", data := .dict #[] } := Heap.get?_push_size _ rfl
  have k1 : Le s.heap (s.heap.push { cls := .type "dict", data := .dict #[] }) := fun b o e => Heap.get?_push_of_some _ e
  generalize hd : s.heap.objs.size = d at hnd hdn gdn hd0 ⊢
  generalize s.heap.push { cls := .type "dict", data := .dict #[] } = h1 at hd0 k1 ⊢
  have ht : (⟨h1, s.gens, s.drawn, s.toks, s.os⟩ : Shared).TypeIs (.ref d) "dict" := ⟨_, hd0, rfl⟩
  have g1 : Le g h1 := gh.trans k1
  refine ⟨ht, F.args_dict_init_2 _ _, ?_⟩
  unfold Builtin.«dict.__init__»
  refine wpAny_bind ?_
  unfold Builtin.Dict.selfAndRest
  refine wpAny_bind (wpAny_notOrdered_dict ht ?_)
  show wpAny _ _ (pure (d, [Value.ref a])) _ _ _
  refine wpAny_pure ?_
  show wpAny _ _ (Builtin.Dict.updateFrom "dict.__init__" d (.ref a) [] .none) _ _ _
  unfold Builtin.Dict.updateFrom
  refine wpAny_bind (wpAny_typeOf (T := "list") ⟨_, g1 _ _ e2, rfl⟩ ?_)
  rw [if_pos (by decide)]
  refine wpAny_bind (keys_none (A := A.in1.in1) (g1 _ _ e2) RM.1 fun h2 tk hk => ?_)
  rw [if_pos (by rfl)]
  have g2 : Le g h2 := g1.trans hk
  refine wpAny_bind (wpAny_rule ?_)
  have hl : h2.IsList a vs.toArray := ⟨_, g2 _ _ e2, rfl, m, rfl⟩
  refine wpAny_bind (wpAny_pyIter_list hl ?_)
  dsimp only
  refine wpAny_pure ⟨plainId_quiet plain_upd _, ?_⟩
  have hIn : h2.get? h2.objs.size = none := fresh_none (Nat.le_refl _)
  have hd2 := hk _ _ hd0
  have hId : h2.objs.size ≠ d := fun q => by rw [q, hd2] at hIn; cases hIn
  have k3 : Le h2 (h2.push { cls := .type "list_iterator", data := .fields #[.ref a, .int 0 0] }) := fun b o e => Heap.get?_push_of_some _ e
  have hit : (h2.push { cls := .type "list_iterator", data := .fields #[.ref a, .int 0 0] }).IsListIter h2.objs.size a 0 := ⟨_, Heap.get?_push_size _ rfl, rfl, rfl⟩
  have hd3 := k3 _ _ hd2
  generalize h2.push { cls := .type "list_iterator", data := .fields #[.ref a, .int 0 0] } = h3 at k3 hit hd3 ⊢
  refine upd_loop (A := A.in1) (g := g) (I := h2.objs.size) (a := a) (d := d) RM.1 (by have := RM.2.2; rw [cLine_is]; show A.units + 1 + 1 < 9900; omega) e5 ⟨_, e2⟩ gdn (none_of_le g2 hIn) hId hz ps.length 0 0 0 _ [] [] (by omega) hit ⟨_, k3 _ _ (g2 _ _ e2), rfl, m, rfl⟩
    ⟨_, #[], 0, hd3, ⟨rfl, rfl, rfl⟩, rfl, rfl, (fun _ h => absurd h List.not_mem_nil), List.nodup_nil⟩ rfl (Nat.le_refl _) (g2.trans k3) (fun _ h => absurd h List.not_mem_nil) fun h' tk' xs' hD' hK' hG' hk' => ?_
  obtain ⟨oD, es, ep, f1, f2, f3, f4, f5, f6⟩ := hD'
  have kp : ∀ b o, s.heap.get? b = some o → h'.get? b = some o := fun b o e => by
    have e2' := hk _ _ (k1 _ _ e)
    exact hk' b o (fun q => by rw [q, hdn] at e; cases e) (fun q => by rw [q, hIn] at e2'; cases e2') (k3 _ _ e2')
  have W : Stp (isP C.p) g s.heap g h' := Stp.keeps gh kp
  obtain ⟨g4, W2, gg, eD, n4⟩ := W.freeze hdn f1
  have pd : C.p ≠ some d := fun q => by obtain ⟨_, _, ⟨_, e', _⟩, _⟩ := S d q; rw [hdn] at e'; cases e'
  refine ⟨rfl, k (.ref d) g4 h' tk' W2 (fun b e => ?_) ⟨d, xs', rfl, hnd, ⟨oD, es, ep, eD, f2, f3, f4, fun x hx => ?_, f6⟩, by simpa using hK'⟩⟩
  · obtain ⟨q1, us, ⟨o, q2, q⟩, q3⟩ := S b e
    exact ⟨n4 b (fun z => pd (by rw [← z, e])) q1, us, ⟨o, kp b o q2, q⟩, q3.mono gg⟩
  · obtain ⟨ob, it, nn, z1, z⟩ := hG' x hx
    exact ⟨ob, it, nn, gg _ _ z1, z⟩
end
end
section
section
open PyProof.Rows
variable {prog : Program} {w : World} {A : Around} {E : Value → Shared → Prop} {s : Shared}
/-! the keys of a dict, whatever they are -/
def EntAt (h : Heap) (d : Addr) (es : Array DictEntry) (ep : Nat) : Prop := ∃ o, h.get? d = some o ∧ o.ExactDict ∧ o.data = .dict es ep
theorem EntAt.typeIs {d : Addr} {es : Array DictEntry} {ep : Nat} (x : EntAt s.heap d es ep) : s.TypeIs (.ref d) "dict" := let ⟨o, e, c, _⟩ := x; ⟨o, e, c.1⟩
theorem EntAt.at {h h' : Heap} {d : Addr} {es : Array DictEntry} {ep : Nat} (x : EntAt h d es ep) (e : ∀ o, h.get? d = some o → h'.get? d = some o) : EntAt h' d es ep := let ⟨o, ho, r⟩ := x; ⟨o, e _ ho, r⟩
theorem ent_iter {d : Addr} {es : Array DictEntry} {ep : Nat} {Q : Value → Shared → Prop} (hd : (d == sysModules) = false) (hm : EntAt s.heap d es ep)
    (hQ : Q (.ref s.heap.objs.size) { s with heap := s.heap.push { cls := .type "dict_keyiterator", data := .fields #[.ref d, .int 0 0, .int es.size 0, .int ep 0] } }) : wpAny (model prog w) A (pyIter (.ref d)) Q E s := by
  have hT := hm.typeIs
  obtain ⟨o, ho, hc, hdat⟩ := hm
  refine wpAny_pyIter_slot hT F.slot_dict_iter (wpAny_call_entry F.slot_dict_iter hT F.entry_dict_iter ?_ (F.args_dict_iter_1 _))
  unfold Builtin.«dict.__iter__»
  refine wpAny_bind ?_
  unfold Builtin.Dict.dictSlotNone
  refine wpAny_bind (wpAny_notOrdered_dict hT ?_)
  show wpAny _ _ (pure (Value.ref d)) _ _ s
  refine wpAny_pure ?_
  show wpAny _ _ (Builtin.Dict.showsAll d >>= _) _ _ s
  unfold Builtin.Dict.showsAll
  rw [if_neg (by rw [hd]; exact Bool.false_ne_true)]
  refine wpAny_bind (wpAny_pure ?_)
  refine wpAny_bind (wpAny_dictEntries ho hdat (wpAny_bind (wpAny_dictEpoch ho hdat ?_)))
  exact wpAny_bind (wpAny_newObj_type (wpAny_pure ⟨_, rfl, "dict_keyiterator", _, ⟨_, Heap.get?_push_size _ rfl, rfl⟩, F.slot_dict_keyiterator_next.lookup, hQ⟩))
theorem ent_next_item {it d : Addr} {i ep : Nat} {es : Array DictEntry} {Q : Option Value → Shared → Prop} (hit : s.heap.IsKeyIter it d i es.size ep) (hm : EntAt s.heap d es ep) (hlt : i < es.size)
    (hQ : ∀ h', h'.IsKeyIter it d (i + 1) es.size ep → Heap.SameBut it s.heap h' → Q (some es[i].key) { s with heap := h' }) : wpAny (model prog w) A (pyNext (.ref it)) Q E s := by
  obtain ⟨o, ho, hc, hd⟩ := id hit
  obtain ⟨od, hod, hcd, hdd⟩ := hm
  unfold pyNext
  refine wpAny_bind (wpAny_attempt (wpAny_callSpecial?_slot (name := Str.ofString "__next__") hit.typeIs F.slot_dict_keyiterator_next
    (wpAny_call_entry F.slot_dict_keyiterator_next hit.typeIs F.entry_dict_keyiterator_next ?_ (F.args_dict_keyiterator_next_1 _))))
  refine wpAny_bind (wpAny_pure (wpAny_bind (wpAny_bind ?_)))
  refine wpAny_bind (wpAny_typeNameOfWhole_keyiter hit.typeIs (wpAny_pure ?_))
  refine wpAny_bind (wpAny_fieldsOf ho hd ?_)
  simp only [show Builtin.Dict_items.ownsTuple "dict_keyiterator" = false by decide, Bool.false_eq_true, if_false]
  show wpAny _ _ (if (Value.ref d == Value.none) = true then _ else _) _ _ s
  rw [if_neg (show ¬ ((Value.ref d == Value.none) = true) from Bool.false_ne_true)]
  refine wpAny_bind (wpAny_pure (wpAny_bind (wpAny_dictEntries hod hdd ?_)))
  rw [if_neg (by simp)]
  refine wpAny_bind (wpAny_pure (wpAny_bind (wpAny_dictEpoch hod hdd ?_)))
  rw [if_neg (by simp)]
  refine wpAny_pure ?_
  simp only [show ¬ ((i : Int) < 0) from by omega, if_false, Int.toNat_natCast, Array.getElem?_eq_getElem hlt]
  refine wpAny_bind (wpAny_bind (wpAny_typeNameOfWhole_keyiter hit.typeIs (wpAny_pure ?_)))
  refine wpAny_bind (wpAny_isOneOf_keyiter hit.typeIs ?_)
  show wpAny _ _ (setField (.ref it) 1 (rawInt ((i : Int) + 1)) >>= _) _ _ s
  refine wpAny_bind (wpAny_setField ho hd (by simp) ?_)
  have hit' : (s.heap.update it (Obj.mapFields (·.setIfInBounds 1 (rawInt ((i : Int) + 1))))).IsKeyIter it d (i + 1) es.size ep :=
    ⟨_, Heap.get?_update_self _ ho (Obj.isFreed_of_fields (Obj.data_mapFields hd _)), (Obj.cls_mapFields ..).trans hc, by rw [Obj.data_mapFields hd]; simp [rawInt]⟩
  refine wpAny_bind (wpAny_holding (wpAny_bind (wpAny_isOneOf_keyiter (s := { s with heap := s.heap.update it (Obj.mapFields (·.setIfInBounds 1 (rawInt ((i : Int) + 1)))) }) hit'.typeIs ?_)))
  show wpAny _ _ (pure es[i].key) _ _ _
  exact wpAny_pure (wpAny_pure ⟨_, rfl, wpAny_pure (hQ _ hit' (Heap.SameBut.update ..))⟩)
theorem ent_next_end {it d : Addr} {ep : Nat} {es : Array DictEntry} {Q : Option Value → Shared → Prop} (hh : A.handled = none) (hit : s.heap.IsKeyIter it d es.size es.size ep) (hm : EntAt s.heap d es ep)
    (hQ : ∀ h', Heap.ExtBut it s.heap h' → Q none { s with heap := h' }) : wpAny (model prog w) A (pyNext (.ref it)) Q E s := by
  obtain ⟨o, ho, hc, hd⟩ := id hit
  obtain ⟨od, hod, hcd, hdd⟩ := hm
  unfold pyNext
  refine wpAny_bind (wpAny_attempt (wpAny_callSpecial?_slot (name := Str.ofString "__next__") hit.typeIs F.slot_dict_keyiterator_next
    (wpAny_call_entry F.slot_dict_keyiterator_next hit.typeIs F.entry_dict_keyiterator_next ?_ (F.args_dict_keyiterator_next_1 _))))
  refine wpAny_bind (wpAny_pure (wpAny_bind (wpAny_bind ?_)))
  refine wpAny_bind (wpAny_typeNameOfWhole_keyiter hit.typeIs (wpAny_pure ?_))
  refine wpAny_bind (wpAny_fieldsOf ho hd ?_)
  simp only [show Builtin.Dict_items.ownsTuple "dict_keyiterator" = false by decide, Bool.false_eq_true, if_false]
  show wpAny _ _ (if (Value.ref d == Value.none) = true then _ else _) _ _ s
  rw [if_neg (show ¬ ((Value.ref d == Value.none) = true) from Bool.false_ne_true)]
  refine wpAny_bind (wpAny_pure (wpAny_bind (wpAny_dictEntries hod hdd ?_)))
  rw [if_neg (by simp)]
  refine wpAny_bind (wpAny_pure (wpAny_bind (wpAny_dictEpoch hod hdd ?_)))
  rw [if_neg (by simp)]
  refine wpAny_pure ?_
  simp only [show ¬ ((es.size : Int) < 0) from by omega, if_false, Int.toNat_natCast, Array.getElem?_eq_none (Nat.le_refl es.size)]
  refine wpAny_bind (wpAny_bind (wpAny_typeNameOfWhole_keyiter hit.typeIs (wpAny_pure ?_)))
  show wpAny _ _ (setField (.ref it) 0 .none >>= _) _ _ s
  refine wpAny_bind (wpAny_setField ho hd (by simp) ?_)
  show wpAny _ _ (newExc (.type "StopIteration") [] >>= _) _ _ _
  refine wpAny_bind ?_
  simp only [newExc, newTuple]
  refine wpAny_bind (wpAny_newObj_type ?_ (by size_fits))
  refine wpAny_bind (m := firstArgMember _ _) (wpAny_of_eq (a := Value.none) (by first | rfl | (simp only [firstArgMember]; rfl)) ?_)
  refine wpAny_newObj_type ?_ (by size_fits)
  simp only [raiseNew]
  refine wpAny_bind (wpAny_handled ?_)
  rw [show A.in1.handled = none from hh]
  refine wpAny_bind (wpAny_pure (wpAny_throw ?_))
  refine wpAny_bind (wpAny_isInstance (T := "StopIteration") (b := true) ⟨_, Heap.get?_push_size _ rfl, rfl⟩ isSubtype_stop ?_)
  exact wpAny_pure (hQ _ (((Heap.SameBut.update ..).extBut.push _).push _))
theorem ent_walk (hh : A.handled = none) (I d : Addr) (hne : d ≠ I) (es : Array DictEntry) (ep : Nat) :
    Walks prog w A I [I, d] [I] es.size (fun i v => ∃ e, es[i]? = some e ∧ v = e.key) (fun i h => h.IsKeyIter I d i es.size ep ∧ EntAt h d es ep) where
  sub := fun b hb => by simp at hb; simp [hb]
  frame := fun _ _ _ st hk => ⟨st.1.at fun o e => hk I (by simp) o e, st.2.at fun o e => hk d (by simp) o e⟩
  item := fun i s Q E hi st hQ => ent_next_item st.1 st.2 hi fun h' hit' hs' => hQ _ h' s.toks ⟨es[i], by simp [hi], rfl⟩ ⟨hit', st.2.at fun o e => hs'.extBut d o hne e⟩ fun b o hb e => hs'.extBut b o (fun h => hb (by simp [h])) e
  done := fun s Q E st hQ => ent_next_end hh st.1 st.2 fun h' he' => hQ h' s.toks fun b o hb e => he' b o (fun h => hb (by simp [h])) e
  self := fun _ _ _ _ st hQ => wpAny_pyIter_keyiter st.1 hQ
theorem ent_hint {r : Addr} {Q : Bool → Shared → Prop} (hT : s.TypeIs (.ref r) "dict") (h : Q false s) : wpAny (model prog w) A (Builtin.List.listLengthHint (.ref r)) Q E s := by
  unfold Builtin.List.listLengthHint
  refine wpAny_bind (wpAny_specialOf hT F.slot_dict_len.lookup ?_)
  generalize hid : ("dict.__len__" : String) = id0
  wp_delta
  rw [show splitId id0 = some ("dict", "__len__") from by subst hid; decide +kernel]
  subst hid
  refine wpAny_bind (wpAny_isInstance (T := "dict") (b := true) hT (by rw [isSubtype_type]; kernel_rfl) ?_)
  refine wpAny_ite_split (fun hab => absurd hab (by decide)) (fun _ => ?_)
  refine wpAny_ite_split (fun _ => ?_) (fun hab => absurd (by decide +kernel) hab)
  refine wpAny_bind (wpAny_typeOf hT ?_)
  exact wpAny_pure h
theorem ent_src (d : Addr) (es : Array DictEntry) (ep : Nat) (hd : (d == sysModules) = false) : KdlSrc prog w "dict" d d es.size (fun i v => ∃ e, es[i]? = some e ∧ v = e.key) (fun h => EntAt h d es ep) where
  type := fun s h => h.typeIs
  there := fun h ⟨o, e, _⟩ => ⟨Heap.lt_size e, Heap.lt_size e⟩
  keep := fun h h' x k => x.at fun o e => k d (.inl rfl) o e
  notList := rfl
  notTuple := rfl
  hint := fun A E s Q h q => ent_hint h.typeIs q
  iter := fun A s hh hok => ⟨_, _, fun E Q q => ent_iter hd hok q, ent_walk hh _ d (Nat.ne_of_lt (by obtain ⟨o, e, _⟩ := hok; exact Heap.lt_size e)) es ep, ⟨_, Heap.get?_push_size _ rfl, rfl, rfl⟩, hok.at fun o e => Heap.get?_push_of_some _ e⟩
end
end
section
section
open PyProof.Rows
variable {C : Cx} {n : Nat} {l : List PyData}
theorem rd_of_key {prog : Program} {w : World} {g : Heap} {p : Int × Int} {a : Addr} (h : (tk_ prog w).is g (kP p) a) : Rd g (.ref a) (pD p) := by
  obtain ⟨o, items, m, e1, e2, e3, e4⟩ := h
  obtain ⟨oc, od, oda, osl⟩ := o
  simp only at e2 e3
  subst e2 e3
  obtain ⟨its⟩ := items
  cases e4 with
  | cons q1 e5 =>
  cases e5 with
  | cons q2 e6 =>
  cases e6
  obtain ⟨t, rfl⟩ := Value.isInt_shape q1
  obtain ⟨u, rfl⟩ := Value.isInt_shape q2
  exact ⟨_, .tuple e1 rfl rfl (.cons (.int _ _) (.cons (.int _ _) .nil))⟩
theorem rd_keys {prog : Program} {w : World} {g : Heap} : ∀ {xs : List (List Int × Addr × Value)} {ks : PL}, KeysP xs ks → (∀ x ∈ xs, (tk_ prog w).is g x.1 x.2.1) → RdAll g (xs.map fun x => Value.ref x.2.1) (pL ks)
  | [], [], _, _ => .nil
  | [], _ :: _, h, _ => by cases h
  | _ :: _, [], h, _ => by cases h
  | x :: xs, p :: ks, h, hx => by
    have h' : x.1 :: xs.map (·.1) = kP p :: ks.map kP := h
    have h1 := (List.cons.inj h').1
    exact .cons (rd_of_key (prog := prog) (w := w) (h1 ▸ hx x List.mem_cons_self)) (rd_keys (List.cons.inj h').2 fun y hy => hx y (List.mem_cons_of_mem _ hy))
theorem CJ.lenD {ks : PL} (hz : ks.length ≤ 100000) : CJ C n (.builtin "len") [dicAV C ks] l (.dat (.int ks.length)) l := by
  intro vs
  refine ⟨?_⟩
  intro A s g Q E RM hg gh hF S k
  obtain ⟨v, rfl, h⟩ := hF.one
  obtain ⟨d, xs, rfl, hd, ⟨o, es, ep, e1, e2, e3, e4, e5, e6⟩, hK⟩ := h
  have ho := gh _ _ e1
  have hT : s.TypeIs (.ref d) "dict" := ⟨o, ho, e2.1⟩
  have hes : es.size = ks.length := by
    have a1 : es.toList.length = xs.length := by rw [e4]; simp
    have a2 : xs.length = ks.length := by have := congrArg List.length hK; simpa using this
    rw [← Array.length_toList]; omega
  refine Calls.call_function_entry kind_len plain_len entry_len (args_len1 _) ?_
  unfold Builtin.«len»
  refine wpAny_bind (m := oneArg "len" _) (wpAny_pure ?_)
  refine wpAny_bind (m := callSpecial? (.ref d) (Str.ofString "__len__")) (wpAny_callSpecial?_slot (name := Str.ofString "__len__") hT F.slot_dict_len (wpAny_call_entry F.slot_dict_len hT F.entry_dict_len ?_ (F.args_dict_len_1 _)))
  show wpAny _ _ (dictSize d >>= _) _ _ s
  unfold dictSize
  refine wpAny_bind (wpAny_bind (wpAny_dictEntries ho e3 (wpAny_pure ?_)))
  show wpAny _ _ (Builtin.Dict.pendingCount d >>= _) _ _ s
  refine wpAny_bind (wpAny_pendingCount_other hd ?_)
  refine wpAny_bind (wpAny_mkInt (wpAny_pure ⟨_, rfl, ?_⟩))
  rw [Nat.add_zero, hes]
  show wpAny _ _ _ _ _ { s with toks := s.toks + 1 }
  refine wpAny_bind (wpAny_holding (wpAny_pure ?_))
  refine wpAny_bind (wpAny_letGo ?_)
  show wpAny _ _ (if ((ks.length : Nat) : Int) < 0 then _ else _) _ _ _
  rw [if_neg (by omega)]
  show wpAny _ _ (if ((ks.length : Nat) : Int) ≥ 2 ^ 63 then _ else _) _ _ _
  rw [if_neg (by omega)]
  exact wpAny_bind (wpAny_mkInt (wpAny_pure ⟨_, rfl, k _ g s.heap _ (Stp.refl gh) S Rd.int⟩))
theorem CJ.sortedD {ps : PL} (h64 : ps.length < 64) : CJ C n (.builtin "sorted") [dicAV C ps] l (.dat (.list (pL (srt ps)))) l := by
  intro vs
  refine ⟨?_⟩
  intro A s g Q E RM hg gh hF S k
  obtain ⟨v, rfl, h⟩ := hF.one
  obtain ⟨d, xs, rfl, hd, ⟨o, es, ep, e1, e2, e3, e4, e5, e6⟩, hK⟩ := h
  have ho := gh _ _ e1
  have hes : es.size = ps.length := by
    have a1 : es.toList.length = xs.length := by rw [e4]; simp
    have a2 : xs.length = ps.length := by have := congrArg List.length hK; simpa using this
    rw [← Array.length_toList]; omega
  refine Calls.call_function_entry kind_sorted plain_sorted entry_sorted (args_sorted1 _) ?_
  unfold Builtin.«sorted»
  refine wpAny_bind (m := checkCount "sorted" 1 1 _) (wpAny_pure ?_)
  refine wpAny_bind (kdu_collect (A := A.in1) (ent_src d es ep hd) RM.1 ⟨o, ho, e2, e3⟩ (by rw [sizeLine_eq]; omega) fun h1 tk acc keep0 hacc => ?_)
  have hr : RdAll g acc.toList (pL ps) := by
    have hv : acc.toList = xs.map fun x => Value.ref x.2.1 := by
      apply List.ext_getElem?
      intro j
      have hal : acc.toList.length = es.size := by rw [Array.length_toList]; exact hacc.1
      by_cases hj : j < acc.toList.length
      · have ea : acc[j]? = some acc.toList[j] := by rw [← Array.getElem?_toList]; exact List.getElem?_eq_getElem hj
        obtain ⟨e, q1, q2⟩ := hacc.2 j _ ea
        rw [← Array.getElem?_toList, e4, List.getElem?_map] at q1
        obtain ⟨x, hx, rfl⟩ := Option.map_eq_some_iff.mp q1
        rw [List.getElem?_eq_getElem hj, q2, List.getElem?_map, hx]; rfl
      · have a1 : es.toList.length = xs.length := by rw [e4]; simp
        rw [Array.length_toList] at a1
        rw [List.getElem?_eq_none (by omega), List.getElem?_eq_none (by rw [List.length_map]; omega)]
    rw [hv]
    exact rd_keys (prog := C.prog) (w := C.w) hK e5
  generalize acc.toList = vs at hr ⊢
  have hlen : vs.length = ps.length := by have := hr.length; simpa using this
  refine wpAny_bind (wpAny_newList ?_ (by rw [sizeLine_eq]; omega))
  have x1 : Stp (isP C.p) g s.heap g h1 := Stp.keeps gh keep0
  have hD : (h1.push (seqObj "list" vs.toArray 0)).get? h1.objs.size = some (seqObj "list" vs.toArray 0) := Heap.get?_push_size _ rfl
  have x2 : Stp (isP C.p) g h1 g (h1.push (seqObj "list" vs.toArray 0)) := Stp.push x1.gh _
  have hn1 : h1.get? h1.objs.size = none := fresh_none (Nat.le_refl _)
  have S1 := S.step (Stp.keeps (W := fun _ => False) gh keep0) fun _ _ q => q
  have S2 := S1.step (Stp.push (W := fun _ => False) x1.gh (seqObj "list" vs.toArray 0)) fun _ _ q => q
  have pD' : C.p ≠ some h1.objs.size := fun q => by obtain ⟨_, _, ⟨_, e', _⟩, _⟩ := S1 _ q; rw [hn1] at e'; cases e'
  refine wpAny_bind (wpAny_holding (wpAny_call_entry slot_list_sort ⟨_, hD, rfl⟩ entry_list_sort (sort_J hD hr x2.gh (none_of_le x1.gh hn1) h64 fun h' tk' out c e1 e2 e3 => ⟨_, rfl, wpAny_pure ⟨_, rfl, ?_⟩⟩) (args_list_sort _)))
  have gD : g.get? h1.objs.size = none := none_of_le x1.gh hn1
  have y : Stp (fun b => b = h1.objs.size) g (h1.push (seqObj "list" vs.toArray 0)) g h' := ⟨Le.rfl, fun b o e => e3 b o (fun q => by rw [q, gD] at e; cases e) (x2.gh b o e), fun b o nb e => e3 b o nb e, fun _ _ _ e => e, fun b o e => by
    by_cases q : b = h1.objs.size
    · exact ⟨_, q ▸ e1⟩
    · exact ⟨o, e3 b o q e⟩⟩
  have sD : s.heap.get? h1.objs.size = none := by
    cases q : s.heap.get? h1.objs.size with
    | none => rfl
    | some o => rw [keep0 _ _ q] at hn1; cases hn1
  have z : Stp (isP C.p) g s.heap g h' := ((x1.trans' x2).trans y (W'' := fun b => isP C.p b ∨ b = h1.objs.size) (fun _ _ _ q => .inl q) fun _ _ _ q => .inr q).weak fun b o e q => q.elim id fun q => by rw [q, sD] at e; cases e
  obtain ⟨g2, z2, gg, e2', n2⟩ := z.freeze sD e1
  obtain ⟨as, ra⟩ := e2.mono gg
  have S3 := S2.step y fun a e q => pD' (by rw [e, q])
  refine k _ g2 h' tk' z2 (fun b e => ?_) ⟨_, .list e2' rfl rfl (by simpa using ra)⟩
  obtain ⟨q1, us, q2, q3⟩ := S3 b e
  exact ⟨n2 b (fun q => pD' (by rw [e, q])) q1, us, q2, q3.mono gg⟩
end
end
local macro_rules | `(tactic| walk_at "nzc") => `(tactic| first
  | ((with_reducible apply CJ.sortedD); assumption)
  | ((with_reducible apply CJ.lenD); first | assumption | omega))
section
/-! plain: pairs of regions 1..6 -/
def okP (p : Int × Int) : Prop := 1 ≤ p.1 ∧ p.1 ≤ 6 ∧ 1 ≤ p.2 ∧ p.2 ≤ 6 ∧ p.1 ≠ p.2
def allP : PL := [(1,2),(1,3),(1,4),(1,5),(1,6),(2,1),(2,3),(2,4),(2,5),(2,6),(3,1),(3,2),(3,4),(3,5),(3,6),(4,1),(4,2),(4,3),(4,5),(4,6),(5,1),(5,2),(5,3),(5,4),(5,6),(6,1),(6,2),(6,3),(6,4),(6,5)]
theorem six {a : Int} (h1 : 1 ≤ a) (h2 : a ≤ 6) : a = 1 ∨ a = 2 ∨ a = 3 ∨ a = 4 ∨ a = 5 ∨ a = 6 := by omega
theorem okP_mem {p : Int × Int} (h : okP p) : p ∈ allP := by
  obtain ⟨a, b⟩ := p
  obtain ⟨h1, h2, h3, h4, h5⟩ := h
  simp only at h1 h2 h3 h4 h5
  have ha := six h1 h2
  have hb := six h3 h4
  rcases ha with rfl | rfl | rfl | rfl | rfl | rfl <;> rcases hb with rfl | rfl | rfl | rfl | rfl | rfl <;> first | (exact absurd rfl h5) | decide
theorem nodup_le {α : Type} [DecidableEq α] : ∀ {l L : List α}, l.Nodup → (∀ x ∈ l, x ∈ L) → l.length ≤ L.length
  | [], _, _, _ => Nat.zero_le _
  | x :: t, L, h, hs => by
    have hx := hs x List.mem_cons_self
    have h' := List.nodup_cons.mp h
    have := nodup_le (l := t) (L := L.erase x) h'.2 fun y hy => (List.mem_erase_of_ne (fun e : y = x => h'.1 (e ▸ hy))).mpr (hs y (List.mem_cons_of_mem _ hy))
    rw [List.length_erase_of_mem hx] at this
    have : 0 < L.length := List.length_pos_of_mem hx
    simp only [List.length_cons]; omega
theorem ok_len {ps : PL} (h : ps.Nodup) (ho : ∀ p ∈ ps, okP p) : ps.length ≤ 30 := nodup_le h fun p hp => okP_mem (ho p hp)
theorem uniq_nodup : ∀ (ps ks : PL), ks.Nodup → (uniq ks ps).Nodup
  | [], ks, h => h
  | p :: ps, ks, h => by
    show (uniq (if p ∈ ks then ks else ks ++ [p]) ps).Nodup
    refine uniq_nodup ps _ ?_
    split
    · exact h
    · rename_i hn
      rw [List.nodup_append]
      refine ⟨h, by simp, ?_⟩
      intro a ha b hb e
      rw [List.mem_singleton.mp hb] at e
      exact hn (e ▸ ha)
theorem mem_uniq : ∀ (ps ks : PL) (q : Int × Int), q ∈ uniq ks ps ↔ q ∈ ks ∨ q ∈ ps
  | [], ks, q => by simp [uniq]
  | p :: ps, ks, q => by
    show q ∈ uniq (if p ∈ ks then ks else ks ++ [p]) ps ↔ _
    rw [mem_uniq ps]
    split
    · rename_i hm
      constructor
      · rintro (h | h)
        · exact .inl h
        · exact .inr (List.mem_cons_of_mem _ h)
      · rintro (h | h)
        · exact .inl h
        · rcases List.mem_cons.mp h with rfl | h
          · exact .inl hm
          · exact .inr h
    · simp only [List.mem_append, List.mem_cons, List.not_mem_nil, false_or, or_assoc]
theorem uniq_self {ps : PL} (h : ps.Nodup) : uniq [] ps = ps := by
  have key : ∀ (ps ks : PL), (ks ++ ps).Nodup → uniq ks ps = ks ++ ps := by
    intro ps
    induction ps with
    | nil => intro ks _; simp [uniq]
    | cons p ps ih =>
      intro ks h
      show uniq (if p ∈ ks then ks else ks ++ [p]) ps = _
      have hn : p ∉ ks := fun hp => by
        rw [List.nodup_append] at h
        exact h.2.2 p hp p List.mem_cons_self rfl
      rw [if_neg hn, ih _ (by rw [List.append_assoc]; exact h), List.append_assoc]; rfl
  simpa using key ps [] (by simpa using h)
def comps (f : PL) : PL := f.flatMap fun p => f.flatMap fun q => if p.2 = q.1 ∧ p.1 ≠ q.2 then [(p.1, q.2)] else []
def reach1 (f : PL) : PL := srt (uniq [] (f ++ comps f))
theorem mem_srt {ps : PL} {q : Int × Int} : q ∈ srt ps ↔ q ∈ ps := (srt_perm ps).mem_iff
theorem mem_reach1 {f : PL} {q : Int × Int} : q ∈ reach1 f ↔ q ∈ f ∨ q ∈ comps f := by
  unfold reach1
  rw [mem_srt, mem_uniq]
  simp
theorem comps_ok {f : PL} (h : ∀ p ∈ f, okP p) : ∀ p ∈ comps f, okP p := by
  intro p hp
  obtain ⟨x, hx, hp⟩ := List.mem_flatMap.mp hp
  obtain ⟨y, hy, hp⟩ := List.mem_flatMap.mp hp
  split at hp
  · rename_i c
    rw [List.mem_singleton.mp hp]
    have a := h x hx; have b := h y hy
    exact ⟨a.1, a.2.1, b.2.2.1, b.2.2.2.1, c.2⟩
  · exact absurd hp List.not_mem_nil
theorem reach1_ok {f : PL} (h : ∀ p ∈ f, okP p) : ∀ p ∈ reach1 f, okP p := fun p hp => (mem_reach1.mp hp).elim (h p) (comps_ok h p)
theorem uniq_len {f : PL} (h : ∀ p ∈ f, okP p) : (uniq [] (f ++ comps f)).length ≤ 30 :=
  ok_len (uniq_nodup _ _ List.nodup_nil) fun p hp => by
    rcases (mem_uniq _ _ _).mp hp with q | q
    · exact absurd q List.not_mem_nil
    · exact (List.mem_append.mp q).elim (h p) (comps_ok h p)
theorem reach1_len {f : PL} (h : ∀ p ∈ f, okP p) : (reach1 f).length ≤ 30 := by
  unfold reach1
  rw [(srt_perm _).length_eq]; exact uniq_len h
theorem flat_len {α β : Type} {k : Nat} {f : α → List β} : ∀ {l : List α}, (∀ a ∈ l, (f a).length ≤ k) → (l.flatMap f).length ≤ l.length * k
  | [], _ => by simp
  | a :: l, h => by
    have x := h a List.mem_cons_self
    have y := flat_len (l := l) fun b hb => h b (List.mem_cons_of_mem _ hb)
    rw [List.flatMap_cons, List.length_append, List.length_cons, Nat.succ_mul]; omega
theorem comps_len {f : PL} (h : f.length ≤ 60) : (comps f).length ≤ 3600 := by
  have : (comps f).length ≤ f.length * 60 := flat_len fun p _ => by
    have := flat_len (k := 1) (l := f) (f := fun q : Int × Int => if p.2 = q.1 ∧ p.1 ≠ q.2 then [(p.1, q.2)] else []) fun q _ => by split <;> simp
    omega
  omega
def reach (ps : PL) : PL := (List.range 6).foldl (fun f _ => reach1 f) (srt ps)
end
section
section
variable {C : Cx} {n : Nat} {l : List PyData} {env : Env} {ρ : Rho}
theorem CLoop.eachP {stp : IV → List PyData → List PyData → List PyData → Prop} {f : Int × Int → List PyData} : ∀ {ps : PL}, (∀ p ∈ ps, stp (ivD (pD p)) l (f p) l) → CLoop stp ((pL ps).map ivD) l (ps.flatMap f) l
  | [], _ => CLoop.nil
  | d :: ds, h => by
    rw [List.flatMap_cons]
    exact CLoop.cons (h d List.mem_cons_self) (CLoop.eachP fun e he => h e (List.mem_cons_of_mem _ he))
theorem CLoop.mapP {stp : IV → List PyData → List PyData → List PyData → Prop} {f : Int × Int → PyData} : ∀ {ps : PL}, (∀ p ∈ ps, stp (ivD (pD p)) l [f p] l) → CLoop stp ((pL ps).map ivD) l (ps.map f) l
  | [], _ => CLoop.nil
  | d :: ds, h => by
    have := CLoop.cons (h d List.mem_cons_self) (CLoop.mapP (f := f) fun e he => h e (List.mem_cons_of_mem _ he))
    simpa using this
/-- a pair's two names -/
theorem CStep.pair {x y : Str} {px py tp : Pos} {tk : Nat} {a b : PyData} {out l' : List PyData} {ifs : List Expr} {ok : Bool} {l₁ : List PyData} {inn : Rho → List PyData → List PyData → List PyData → Prop} (hx : StoreOk env x) (hy : StoreOk env y) (hn : ρ.lookup x = none) (hm : List.lookup y ((x, AV.dat a) :: ρ) = none)
    (he : assignEach [.Name x px, .Name y py] env = [(false, assign (.Name x px) env), (false, assign (.Name y py) env)]) (ht : TsJ C n env ((y, .dat b) :: (x, .dat a) :: ρ) l ifs ok l₁) (h : if ok then inn ((y, .dat b) :: (x, .dat a) :: ρ) l₁ out l' else out = [] ∧ l' = l₁) :
    CStep C n env (.Tuple [.Name x px, .Name y py] tk tp) ifs inn ρ (.av (.dat (.tuple [a, b]))) l out l' :=
  ⟨_, l₁, ok, AsJ.pairD (AsJ.pair (AsJ.name hx) (AsJ.name hy) he), fun z c e => sub_cons hm z c (sub_cons hn z c e), ht, h⟩
theorem reached_J (B : Bs C) {ps : PL} (hok : ∀ p ∈ ps, okP p) (hlen : ps.length ≤ 60) : CJ C (n + 1) (.ref 133) [.dat (.list (pL ps))] l (.dat (.list (pL (reach ps)))) l := by
  have h64 : ps.length < 64 := by omega
  refine CJ.body (fl := .ret _) B rfl rfl (binds_plain (xs := [Str.ofString "pairs"]) fun vs hl => ?_) (Nat.le_refl _) (by decide) (fun k => by walk_at "nzb") rfl (fun L => ?_) rfl rfl rfl
  · obtain ⟨_, rfl⟩ := len1 hl; rfl
  walk_at "nza"
  (with_reducible apply BsJ.cons (ρ₁ := (Str.ofString "found", .dat (.list (pL (reach ps)))) :: [(Str.ofString "pairs", .dat (.list (pL ps)))]) (l₁ := l))
  · (with_reducible apply SJ.for_)
    · (with_reducible apply IterJ.range (m := 6))
      · walk_at "nz"
      · walk_at "nz"
      · rfl
      · decide
      · intro _ _; rfl
      · rfl
      · rfl
    · refine Loop.fold (item := fun i : Nat => ivD (.int (i : Int))) (upd := fun (f : PL) (_ : Nat) => reach1 f) (R := fun f => (Str.ofString "found", .dat (.list (pL f))) :: [(Str.ofString "pairs", .dat (.list (pL ps)))])
        (ok := fun (f : PL) (_ : List Nat) => f.length ≤ 60 ∧ ∀ p ∈ f, okP p) (fun f i is hf => ?_) (List.range 6) (srt ps) ⟨by rw [(srt_perm ps).length_eq]; exact hlen, fun p hp => hok p (mem_srt.mp hp)⟩
      obtain ⟨hf1, hf2⟩ := hf
      have hu : (uniq [] (f ++ comps f)).length < 64 := by have := uniq_len hf2; omega
      have hc := comps_len hf1
      refine ⟨⟨_, AsJ.name ⟨rfl, .inl rfl⟩, ?_⟩, by have := reach1_len hf2; omega, reach1_ok hf2⟩
      (with_reducible apply BsJ.cons)
      · (with_reducible apply SJ.comp2 (outs := pL (comps f)) (l₂ := l))
        · exact ⟨rfl, .inl rfl⟩
        · rfl
        · walk_at "nzcomp"
        · intro _; rfl
        · intro _ _; rfl
        · walk_at "nzi"
        · intro Cf
          rw [show pL (comps f) = f.flatMap fun p => pL (f.flatMap fun q => if p.2 = q.1 ∧ p.1 ≠ q.2 then [(p.1, q.2)] else []) by simp only [comps, List.map_flatMap]]
          refine CLoop.eachP fun p hp => ?_
          refine CStep.pair (ok := true) (l₁ := l) ⟨rfl, .inl rfl⟩ ⟨rfl, .inl rfl⟩ rfl rfl rfl TsJ.nil ?_
          refine ⟨(pL f).map ivD, l, ?_, ?_⟩
          · walk_at "nzi"
          · rw [show pL (f.flatMap fun q => if p.2 = q.1 ∧ p.1 ≠ q.2 then [(p.1, q.2)] else []) = f.flatMap fun q => if decide (p.2 = q.1 ∧ p.1 ≠ q.2) then [pD (p.1, q.2)] else [] by
              show List.map pD _ = _
              rw [List.map_flatMap]; congr 1; funext q; by_cases h : p.2 = q.1 ∧ p.1 ≠ q.2 <;> simp [h]]
            refine CLoop.eachP fun q hq => ?_
            refine CStep.pair (ok := decide (p.2 = q.1 ∧ p.1 ≠ q.2)) (l₁ := l) ⟨rfl, .inl rfl⟩ ⟨rfl, .inl rfl⟩ rfl rfl rfl (TsJ.one ?_) ?_
            · refine BJ.and (c := (p.2 == q.1)) (l₁ := l) ?_ (fun h => BJ.to (BJ.and1 (c := (p.1 != q.2)) ?_) ?_) fun h => ⟨?_, rfl⟩
              · walk_at "nz"
              · walk_at "nz"
              · have h' : p.2 = q.1 := beq_iff_eq.mp h
                rw [bne_dec]; simp [h']
              · have h' : ¬ p.2 = q.1 := beq_eq_false_iff_ne.mp h
                simp [h']
            · by_cases h : p.2 = q.1 ∧ p.1 ≠ q.2
              · rw [decide_eq_true h]
                exact ⟨_, rfl, by walk_at "nz"⟩
              · rw [decide_eq_false h]
                exact ⟨rfl, rfl⟩
        · rw [List.length_map]; omega
      · (with_reducible apply BsJ.cons)
        · (with_reducible apply SJ.assign)
          · (with_reducible apply EJ.call)
            · walk_at "nz"
            · walk_at "nz"
            · (with_reducible apply EsJ.cons rfl)
              · (with_reducible apply EJ.call)
                · walk_at "nz"
                · walk_at "nz"
                · (with_reducible apply EsJ.cons rfl)
                  · (with_reducible apply EJ.comp1N (outs := (f ++ comps f).map rowT) (l₂ := l))
                    · walk_at "nzcomp"
                    · intro _; rfl
                    · (with_reducible apply IterJ.list (ds := pL (f ++ comps f)))
                      (with_reducible apply EJ.to)
                      · (with_reducible apply EJ.bin)
                        · walk_at "nz"
                        · walk_at "nz"
                        · (with_reducible apply OJ2.catL)
                          simp only [List.length_map]; omega
                      · simp
                      · rfl
                    · intro Cf
                      refine CLoop.mapP fun p hp => ?_
                      apply CStep.name1
                      · exact ⟨rfl, .inl rfl⟩
                      · rfl
                      · walk_at "nz"
                    · rw [List.length_map, List.length_append]; omega
                  · exact EsJ.nil
                · exact CJ.dictP B (by rw [List.length_append]; omega)
                · rfl
                · rfl
                · rfl
              · exact EsJ.nil
            · walk_at "nzc"
            · rfl
            · rfl
            · rfl
          · exact ⟨rfl, .inr ⟨rfl, rfl, rfl⟩⟩
          · rfl
        · exact BsJ.nil.sub fun x a e => SubL.get (by exact ⟨rfl, rfl, trivial⟩) e
    · intro _; rfl
  · walk_at "nzx"
    · rfl
    · rfl
end
end
section
local macro_rules | `(tactic| walk_at "nzo") => `(tactic| first
  | ((with_reducible apply OJ2.pow) <;> first | decide | exact of_decide_eq_true rfl))
section
variable {C : Cx} {n : Nat} {l l₁ : List PyData} {env : Env} {ρ ρ₁ : Rho}
theorem execs_step {st : Stmt} {rest : List Stmt} (h : SJ C n env ρ l st ρ₁ l₁ .next) {A : Around} {s : Shared} {g : Heap} {Q : Flow → Shared → Prop} {E : Value → Shared → Prop} (RM : Room n A) (hg : Le C.h₀ g) (gh : Le g s.heap) (hF : FR g C.p env ρ s.heap) (S : ST g C.p l s.heap)
    (k : ∀ g' h' tk, Stp (WL C.p env) g s.heap g' h' → FR g' C.p env ρ₁ h' → ST g' C.p l₁ h' → wpAny (model C.prog C.w) A (execs rest env) Q E { s with heap := h', toks := tk }) : wpAny (model C.prog C.w) A (execs (st :: rest) env) Q E s := by
  refine wpAny_execs_cons (h.run A s g _ _ RM hg gh hF S fun f g1 h1 tk x F1 S1 hf => ?_)
  cases f with
  | next => exact k g1 h1 tk x F1 S1
  | _ => exact hf.elim
def cellV (ns : List Int) (k : Nat) : Int := if h : k < ns.length then ns[k] else 0
def bigV (ns : List Int) (k : Nat) : Int := if (-1 - cellV ns k) > cellV ns k then (-1 - cellV ns k) else cellV ns k
def poolS (ns : List Int) (k : Nat) : Src := (bigV ns k * (if decide ((10 : Int) ^ 18 ≤ bigV ns k) then 1 else 0), (((bigV ns k).fmod 2147483629 + 7919 * (k : Int) * k + 31 * k + 17) * 48271).fmod 2147483647)
theorem bigV_nn (ns : List Int) (k : Nat) : 0 ≤ bigV ns k := by unfold bigV; split <;> omega
theorem poolS_ok (ns : List Int) (k : Nat) : SrcOk (poolS ns k) := by
  refine ⟨Int.mul_nonneg (bigV_nn ns k) (by split <;> decide), Int.fmod_nonneg_of_pos _ (by decide), ?_⟩
  have := Int.fmod_lt_of_pos (((bigV ns k).fmod 2147483629 + 7919 * (k : Int) * k + 31 * k + 17) * 48271) (b := 2147483647) (by decide)
  show Int.fmod _ _ < _
  omega
theorem mulOkR {i j : Int} (h0 : 0 ≤ j) (h1 : j < 2 ^ 62) : IntMulOk i j := IntMulOk.of_right (intBits_le_64 (by omega) (by omega))
theorem NewJ.pool {func e e' : Expr} {pos : Pos} {ns : List Int} {k : Nat} (B : Bs C) (hns : ns.length ≤ 63) (hk : k < 2) (hf : EJ C (n + 2) env ρ l func (.val (.ref 85)) l) (ha : EsJ C (n + 2) env ρ l [e, e'] [.dat (.list (ns.map .int)), .dat (.int k)] l)
    (he : eval (.Call func [e, e'] [] pos) env = (do callWith pos (← eval func env) [] (backTo pos (starEach [e, e'] env)) (backToKw pos (keywordEach [] env))))
    (hst : starEach [e, e'] env = (false, eval e env) :: starEach [e'] env) : NewJ C (n + 2) env ρ l (.Call func [e, e'] [] pos) (fun b => .val (.ref b)) (srcL (poolS ns k)) := by
  refine ⟨?_⟩
  intro A s g Q E RM hg gh hF S kk
  refine Call_ (hf.run A s g _ _ RM hg gh hF S fun v g1 h1 tk x S1 a1 => ?_) he
  cases a1
  obtain ⟨o, fd, ho, hd⟩ : ∃ o fd, (KK C.w).lookup 85 = some o ∧ o.data = .func fd := ⟨_, _, rfl, rfl⟩
  refine callWith_def hd ((ha.run pos).run A _ g1 _ _ RM (hg.trans x.gg) x.gh (hF.stepP x) S1 fun vs g2 h2 tk2 y S2 a2 => ⟨((hg.trans x.gg).trans y.gg).trans y.gh 85 o (B.X 85 o ho), ?_⟩) hst
  have xy := x.trans' y
  have hg2 := (hg.trans x.gg).trans y.gg
  obtain ⟨v1, v2, rfl, r1, r2⟩ := a2.two
  refine wpAny_call (enter_J (n := n + 1) (xs := [Str.ofString "script", Str.ofString "k"]) (us := [v1, v2]) (bs := [.dat (.list (ns.map .int)), .dat (.int k)]) B (f := 85) rfl rfl (Nat.le_refl _) (by decide) (fun k => by walk_at "nzb") rfl rfl rfl RM hg2 y.gh S2 (BindsTo.of_eq rfl) ⟨r1, r2, trivial⟩
    fun h3 tk3 z F3 S3 RM3 => ?_)
  have F3' : FR g2 C.p _ [(Str.ofString "script", .dat (.list (ns.map .int))), (Str.ofString "k", .dat (.int k))] h3 := F3
  have hb0 := bigV_nn ns k
  have hm0 := Int.fmod_nonneg_of_pos (bigV ns k) (b := 2147483629) (by decide)
  have hm1 := Int.fmod_lt_of_pos (bigV ns k) (b := 2147483629) (by decide)
  have m1 : IntMulOk 7919 (k : Int) := mulOk (by decide) (by decide)
  have m2 : IntMulOk (7919 * (k : Int)) (k : Int) := mulOkR (by omega) (by omega)
  have m3 : IntMulOk 31 (k : Int) := mulOk (by decide) (by decide)
  have m4 : IntMulOk ((bigV ns k).fmod 2147483629 + 7919 * (k : Int) * k + 31 * k + 17) 48271 := mulOkR (by decide) (by decide)
  have m5 : IntMulOk (bigV ns k) (if decide ((10 : Int) ^ (18 : Int).toNat ≤ bigV ns k) = true then 1 else 0) := mulOkR (by split <;> decide) (by split <;> decide)
  refine execs_step (ρ₁ := (Str.ofString "cell", .dat (.int 0)) :: [(Str.ofString "script", .dat (.list (ns.map .int))), (Str.ofString "k", .dat (.int k))]) (l₁ := l) ?st1 RM3 hg2 z.gh F3' S3 fun g4 h4 tk4 x4 F4 S4 => ?_
  case st1 =>
    (with_reducible apply SJ.assign)
    · walk_at "nz"
    · exact ⟨rfl, .inl rfl⟩
    · rfl
  refine execs_step (ρ₁ := (Str.ofString "cell", .dat (.int (cellV ns k))) :: [(Str.ofString "script", .dat (.list (ns.map .int))), (Str.ofString "k", .dat (.int k))]) (l₁ := l) ?st2 RM3 (hg2.trans x4.gg) x4.gh F4 S4 fun g5 h5 tk5 x5 F5 S5 => ?_
  case st2 =>
    by_cases hc : k < ns.length
    · rw [show cellV ns k = ns[k] by unfold cellV; rw [dif_pos hc]]
      (with_reducible apply SJ.ite_t)
      · (with_reducible apply BJ.to)
        · (with_reducible apply BJ.cmp)
          · walk_at "nz"
          · (with_reducible apply EJ.call)
            · walk_at "nz"
            · walk_at "nz"
            · walk_at "nz"
            · (with_reducible apply CJ.lenL)
              rw [List.length_map]; omega
            · rfl
            · rfl
            · rfl
          · walk_at "nz"
          · rfl
        · rw [List.length_map]; exact decide_eq_true (by omega)
      · refine XJ.sub (ρ₁ := (Str.ofString "cell", .dat (.int ns[k])) :: (Str.ofString "cell", .dat (.int 0)) :: [(Str.ofString "script", .dat (.list (ns.map .int))), (Str.ofString "k", .dat (.int k))]) ?_ fun x a e => SubL.get (by exact ⟨rfl, rfl, rfl, trivial⟩) e
        (with_reducible apply BsJ.cons)
        · (with_reducible apply SJ.assign)
          · (with_reducible apply EJ.sub_)
            · walk_at "nz"
            · walk_at "nz"
            · (with_reducible apply OJ2.itemL (d := .int ns[k]))
              · omega
              · simp [hc]
              · omega
              · intro _ _; with_unfolding_all exact rfl
          · exact ⟨rfl, .inl rfl⟩
          · rfl
        · exact BsJ.nil
    · rw [show cellV ns k = 0 by unfold cellV; rw [dif_neg hc]]
      (with_reducible apply SJ.ite_f)
      · (with_reducible apply BJ.to)
        · (with_reducible apply BJ.cmp)
          · walk_at "nz"
          · (with_reducible apply EJ.call)
            · walk_at "nz"
            · walk_at "nz"
            · walk_at "nz"
            · (with_reducible apply CJ.lenL)
              rw [List.length_map]; omega
            · rfl
            · rfl
            · rfl
          · walk_at "nz"
          · rfl
        · rw [List.length_map]; exact decide_eq_false (by omega)
      · exact BsJ.nil
  refine execs_step (ρ₁ := (Str.ofString "big", .dat (.int (bigV ns k))) :: (Str.ofString "cell", .dat (.int (cellV ns k))) :: [(Str.ofString "script", .dat (.list (ns.map .int))), (Str.ofString "k", .dat (.int k))]) (l₁ := l) ?st3 RM3 ((hg2.trans x4.gg).trans x5.gg) x5.gh F5 S5 fun g6 h6 tk6 x6 F6 S6 => ?_
  case st3 =>
    (with_reducible apply SJ.assign)
    · (with_reducible apply EJ.to)
      · walk_at "nz"
      · rfl
      · rfl
    · exact ⟨rfl, .inl rfl⟩
    · rfl
  refine execs_step (ρ₁ := (Str.ofString "mixed", .dat (.int ((((bigV ns k).fmod 2147483629 + 7919 * (k : Int) * k + 31 * k + 17) * 48271).fmod 2147483647))) :: (Str.ofString "big", .dat (.int (bigV ns k))) :: (Str.ofString "cell", .dat (.int (cellV ns k))) :: [(Str.ofString "script", .dat (.list (ns.map .int))), (Str.ofString "k", .dat (.int k))]) (l₁ := l) ?st4 RM3 (((hg2.trans x4.gg).trans x5.gg).trans x6.gg) x6.gh F6 S6 fun g7 h7 tk7 x7 F7 S7 => ?_
  case st4 =>
    (with_reducible apply SJ.assign)
    · walk_at "nz"
    · exact ⟨rfl, .inl rfl⟩
    · rfl
  refine wpAny_execs_cons (wpAny_Return_some (List_ ((EsJ.run (as := [.dat (.int (bigV ns k * (if decide ((10 : Int) ^ (18 : Int).toNat ≤ bigV ns k) = true then 1 else 0))), .dat (.int ((((bigV ns k).fmod 2147483629 + 7919 * (k : Int) * k + 31 * k + 17) * 48271).fmod 2147483647))]) (l' := l) ?es _).run _ _ g7 _ _ RM3 ((((hg2.trans x4.gg).trans x5.gg).trans x6.gg).trans x7.gg) x7.gh F7 S7 fun vs g8 h8 tk8 x8 S8 hA => wpAny_newList ?_ ?_)))
  case es =>
    (with_reducible apply EsJ.cons rfl)
    · walk_at "nz"
    · (with_reducible apply EsJ.cons rfl)
      · walk_at "nz"
      · exact EsJ.nil
  · have hbn : h8.get? h8.objs.size = none := fresh_none (Nat.le_refl _)
    have y9 : Stp (fun _ => False) g8 h8 g8 (h8.push (lstO vs)) := Stp.push x8.gh _
    have W : Stp (isP C.p) g s.heap g8 (h8.push (lstO vs)) := by
      have a := (((x4.trans' x5).trans' x6).trans' x7).trans' x8.up
      have b := xy.trans z (W'' := isP C.p) (fun _ _ _ q => q) fun _ _ _ q => q.elim
      have c := b.trans a (W'' := fun b => isP C.p b ∨ b = h2.objs.size) (fun _ _ _ q => .inl q) fun b o e q => by
        rcases q with q | q | ⟨_, y, q⟩
        · exact .inl q
        · exact .inr q
        · exact nomatch q
      have d := c.trans y9 (W'' := fun b => isP C.p b ∨ b = h2.objs.size) (fun _ _ _ q => q) fun _ _ _ q => q.elim
      refine d.weak fun b o e q => q.elim id fun q => ?_
      obtain ⟨o', e'⟩ := xy.ex b o e
      rw [q, fresh_none (Nat.le_refl _)] at e'; cases e'
    have gbn : g8.get? h8.objs.size = none := none_of_le x8.gh hbn
    have sbn : s.heap.get? h8.objs.size = none := by
      cases q : s.heap.get? h8.objs.size with
      | none => rfl
      | some o =>
        obtain ⟨o1, q1⟩ := xy.ex _ _ q
        obtain ⟨o2, q2⟩ := z.ex _ _ q1
        obtain ⟨o3, q3⟩ := ((((x4.trans' x5).trans' x6).trans' x7).trans' x8.up).ex _ _ q2
        rw [hbn] at q3; cases q3
    exact kk (.ref h8.objs.size) h8.objs.size g8 (h8.push (lstO vs)) _ W (S8.step y9 fun _ _ q => q) sbn gbn rfl ⟨vs, ⟨_, Heap.get?_push_size _ rfl, 0, rfl⟩, rdAll_of rfl hA⟩
  · have := avRs_length hA
    rw [this, sizeLine_eq]; simp
end
end
section
section
variable {C : Cx} {n : Nat} {l l₁ : List PyData} {env : Env} {ρ ρ₁ : Rho}
/-- a for whose body may change what W tells -/
theorem for_coreX {target : Expr} {body : List Stmt} {ivs : List IV} {W : Addr → Prop} {J : Nat → Heap → Heap → Prop} {A : Around} {s : Shared} {g g' h' : Heap} {tk : Nat} {I : Addr} {fp wr : List Addr} {P Md : Nat → Value → Heap → Prop} {St : Nat → Heap → Prop} {R : Result → Shared → Prop}
    (hg : Le C.h₀ g) (M : MW C A target I fp wr ivs P Md St g') (x : Stp W g s.heap g' h') (J0 : J 0 g' h') (hwr : ∀ b ∈ wr, s.heap.get? b = none ∧ g'.get? b = none ∧ ¬ W b) (st : St 0 h')
    (Jf : ∀ i g h h', J i g h → (∀ b o, b ∉ wr → h.get? b = some o → h'.get? b = some o) → Le g h' → J i g h')
    (step : ∀ i iv v g₁ h₁ tk₁ (Qf : Flow → Shared → Prop) (E₁ E₂ : Value → Shared → Prop), ivs[i]? = some iv → Le C.h₀ g₁ → Le g₁ h₁ → J i g₁ h₁ → ItemR g₁ h₁ v iv →
      (∀ g₃ h₃ tk₃, Stp W g₁ h₁ g₃ h₃ → J (i + 1) g₃ h₃ → Qf .next { s with heap := h₃, toks := tk₃ }) →
      wpAny (model C.prog C.w) A (PySem.assign target env v) (fun _ s₂ => wpAny (model C.prog C.w) A (execs body env) Qf E₁ s₂) E₂ { s with heap := h₁, toks := tk₁ })
    (k : ∀ g₃ h₃ tk₃, Stp W g s.heap g₃ h₃ → J ivs.length g₃ h₃ → R (.ok .next) { s with heap := h₃, toks := tk₃ }) :
    codeAny (model C.prog C.w) A (.forLoop target (.ref I) body [] env) R { s with heap := h', toks := tk } := by
  refine codeAny_forLoop_any
    (fun j s' => ∃ hh tk gi i, s' = { s with heap := hh, toks := tk } ∧ Stp (fun b => W b ∨ b ∈ wr) g' h' gi hh ∧ J i gi hh ∧ St i hh ∧ i ≤ ivs.length ∧ j = ivs.length + 1 - i)
    ?_ (ivs.length + 1) ⟨h', tk, g', 0, rfl, Stp.refl x.gh, J0, st, Nat.zero_le _, rfl⟩
  rintro j s' ⟨hh, tk, gi, i, rfl, y, Ji, sti, hi, rfl⟩
  have hgi : Le C.h₀ gi := (hg.trans x.gg).trans y.gg
  have gw : ∀ b ∈ wr, gi.get? b = none := fun b hb => by obtain ⟨o, e⟩ := M.ex _ _ st b hb; exact y.new b o e (hwr b hb).2.1
  have fin : ∀ (g₃ h₃ : Heap), Stp (fun b => W b ∨ b ∈ wr) g' h' g₃ h₃ → Stp W g s.heap g₃ h₃ := fun g₃ h₃ z =>
    x.trans z (fun _ _ _ q => q) fun b o e q => q.elim id fun q => by rw [(hwr b q).1] at e; cases e
  by_cases hlt : i < ivs.length
  · refine M.kt.item i _ _ _ hlt sti fun v ha tka hMd ka => ?_
    refine M.kt.go i v _ _ _ hMd fun hb hP stb kb => ?_
    have kab : ∀ b o, b ∉ wr → hh.get? b = some o → hb.get? b = some o := fun b o q e => kb b o q (ka b o q e)
    have gb : Le gi hb := fun b o e => kab b o (fun q => by rw [gw b q] at e; cases e) (y.gh b o e)
    have z : Stp (fun b => b ∈ wr) gi hh gi hb := ⟨Le.rfl, gb, fun b o q e => kab b o q e, fun _ _ _ e => e, fun b o e => by
      by_cases q : b ∈ wr
      · exact M.ex _ _ stb b q
      · exact ⟨o, kab b o q e⟩⟩
    obtain ⟨iv, hiv, hR⟩ := M.item i v gi hb y.gg gb hP
    have Jb := Jf i gi hh hb Ji kab gb
    refine step i iv v gi hb tka _ _ _ hiv hgi gb Jb hR fun g₃ h₃ tk₃ zc J3 => ?_
    have st3 : St (i + 1) h₃ := M.kt.frame _ _ _ stb fun b hbf o e => by
      rcases M.fpg b hbf with q | ⟨o', q⟩
      · exact zc.keep b o (hwr b q).2.2 e
      · have e1 := gb b o' (y.gg b o' q)
        rw [e] at e1; cases e1
        exact zc.gh b o (zc.gg b o (y.gg b o q))
    have yy : Stp (fun b => W b ∨ b ∈ wr) g' h' g₃ h₃ := (y.trans z (fun _ _ _ q => q) fun _ _ _ q => .inr q).trans zc (fun _ _ _ q => q) fun _ _ _ q => .inl q
    exact ⟨ivs.length + 1 - (i + 1), by omega, h₃, tk₃, g₃, i + 1, rfl, yy, J3, st3, hlt, rfl⟩
  · have hin : i = ivs.length := by omega
    subst hin
    refine M.kt.done _ _ _ sti fun hz tkz kz => wpAny_execs_nil ?_
    have zz := fin _ _ y
    have gz : Le gi hz := fun b o e => kz b o (fun q => by rw [gw b q] at e; cases e) (y.gh b o e)
    have nw : ∀ b o, s.heap.get? b = some o → b ∉ wr := fun b o e q => by rw [(hwr b q).1] at e; cases e
    have stz : Stp W g s.heap gi hz := ⟨zz.gg, gz, fun b o q e => kz b o (nw b o e) (zz.keep b o q e), zz.new, fun b o e => by obtain ⟨o', e'⟩ := zz.ex b o e; exact ⟨o', kz b o' (nw b o e) e'⟩⟩
    exact k gi hz tkz stz (Jf _ gi hh hz Ji kz gz)
end
end
section
section
variable {C : Cx} {n : Nat} {l l₁ l₂ l₃ : List PyData} {env : Env} {ρ ρ₃ : Rho} {fl : AFl}
theorem FR.kept {g h h' : Heap} {p : Option Addr} {env : Env} {ρ : Rho} {wr : List Addr} (F : FR g p env ρ h) (k : ∀ b o, b ∉ wr → h.get? b = some o → h'.get? b = some o) (hl : env.locals ∉ wr) (hc : ∀ y c, env.cells.lookup y = some c → c ∉ wr) : FR g p env ρ h' :=
  ⟨let ⟨m, hn, q⟩ := F.ns; ⟨m, hn.at' fun o e => k _ o hl e, q⟩, fun y a e q => let ⟨c, o, v, e1, e2, e3, e4⟩ := F.cell y a e q; ⟨c, o, v, e1, k _ _ (hc y c e1) e2, e3, e4⟩, F.lg, F.lp,
    fun y c e => let ⟨a1, a2, a3, o, v, a4, a5⟩ := F.cg y c e; ⟨a1, a2, a3, o, v, k _ _ (hc y c e) a4, a5⟩, F.cu⟩
theorem ST.kept {g h h' : Heap} {p : Option Addr} {l : List PyData} {wr : List Addr} (S : ST g p l h) (k : ∀ b o, b ∉ wr → h.get? b = some o → h'.get? b = some o) (hp : ∀ a, p = some a → a ∉ wr) : ST g p l h' :=
  fun a e => let ⟨a1, vs, ⟨o, a2, q⟩, a3⟩ := S a e; ⟨a1, vs, ⟨o, k _ _ (hp a e) a2, q⟩, a3⟩
def KvR (g : Heap) (sP sQ : Str) (d0 d1 : PyData) : Nat → List (Str × Value) → Prop
  | 0, kvs => kvs = []
  | 1, kvs => ∃ u, kvs = [(sP, u)] ∧ Rd g u d0
  | _, kvs => ∃ u v, kvs = [(sP, u), (sQ, v)] ∧ Rd g u d0 ∧ Rd g v d1
theorem KvR.mono {g g' : Heap} {sP sQ : Str} {d0 d1 : PyData} (k : Le g g') : ∀ {i : Nat} {kvs : List (Str × Value)}, KvR g sP sQ d0 d1 i kvs → KvR g' sP sQ d0 d1 i kvs
  | 0, _, h => h
  | 1, _, ⟨u, e, h⟩ => ⟨u, e, h.mono k⟩
  | _ + 2, _, ⟨u, v, e, h1, h2⟩ => ⟨u, v, e, h1.mono k, h2.mono k⟩
theorem BsJ.varied {x y : Str} {px py vx yx dp ap sp vp fp : Pos} {it val : Expr} {rest : List Stmt} {V : Ways} (hx : StoreOk env x) (hy : StoreOk env y) (kx : env.kindOf x = some .local) (ky : env.kindOf y = some .local) (hxy : (x == y) = false) (dx : (x == ("__debug__" : Str)) = false) (dy : (y == ("__debug__" : Str)) = false)
    (hdx : swapsWith (.Dict [] [] dp) (some (.Name x px)) ap.line env = Pure.pure false) (hs' : swapsWith val (some (.Subscript (.Name x vx) (.Name y yx) sp)) vp.line env = Pure.pure false)
    (hit : ∀ ρ, IterJ C n env ρ l it (.Name y py) [ivD (.str (Ty.pS false)), ivD (.str (Ty.pS true))] l) (hf : ∀ v, foldedSetIterable it env v = Pure.pure v)
    (hval0 : ∀ vd, EJ C n env ((y, .dat (.str (Ty.pS false))) :: (x, .val (.ref vd)) :: ρ) l val (.dat (.tuple (wayL (V false)))) l₁)
    (hval1 : ∀ vd, EJ C n env ((y, .dat (.str (Ty.pS true))) :: (x, .val (.ref vd)) :: ρ) l₁ val (.dat (.tuple (wayL (V true)))) l₂)
    (hρy : ρ.lookup y = none) (hrest : BsJ C n env ((x, varAV C V) :: ρ) l₂ rest ρ₃ l₃ fl) :
    BsJ C n env ρ l (.Assign [.Name x px] (.Dict [] [] dp) ap :: .For (.Name y py) it [.Assign [.Subscript (.Name x vx) (.Name y yx) sp] val vp] [] fp :: rest) ρ₃ l₃ fl := by
  refine ⟨?_⟩
  intro A s g Q E RM hg gh hF S k
  refine wpAny_execs_cons (wpAny_Assign_Name (wpAny_Dict_empty ?_) hdx)
  have hvn : s.heap.get? s.heap.objs.size = none := fresh_none (Nat.le_refl _)
  have x1 : Stp (fun _ => False) g s.heap g (s.heap.push { cls := .type "dict", data := .dict #[] }) := Stp.push gh _
  have D1 : (s.heap.push { cls := .type "dict", data := .dict #[] }).DictOf (PySem.strKind C.prog C.w) s.heap.objs.size [] := Heap.DictOf.new s.heap
  generalize s.heap.objs.size = vd at hvn D1 ⊢
  generalize s.heap.push { cls := .type "dict", data := .dict #[] } = h1 at x1 D1 ⊢
  have gvd : g.get? vd = none := none_of_le gh hvn
  have vl : vd ≠ env.locals := fun q => by obtain ⟨o, e⟩ := hF.has; rw [← q, hvn] at e; cases e
  have vc : ∀ y, env.cells.lookup y ≠ some vd := fun y q => by obtain ⟨_, _, _, o, _, e', _⟩ := hF.cg y vd q; rw [hvn] at e'; cases e'
  have vpp : C.p ≠ some vd := fun q => by obtain ⟨_, _, ⟨_, e', _⟩, _⟩ := S vd q; rw [hvn] at e'; cases e'
  have nW : ¬ WL C.p env vd := fun q => by
    rcases q with q | q | ⟨_, z, q⟩
    · exact vpp q
    · exact vl q
    · exact vc z q
  have dkeep : ∀ {h h' : Heap} {kvs}, h.DictOf (PySem.strKind C.prog C.w) vd kvs → (∀ o, h.get? vd = some o → h'.get? vd = some o) → h'.DictOf (PySem.strKind C.prog C.w) vd kvs := fun ⟨o, es, ep, ho, r⟩ q => ⟨o, es, ep, q o ho, r⟩
  refine store_J (a := .val (.ref vd)) (s := { s with heap := h1 }) hx x1.gh (hF.step x1 (fun q => q) fun _ _ _ q => q) (S.step x1 fun _ _ q => q) rfl fun h2 tk2 y2 F2 S2 => ?_
  have D2 : h2.DictOf (PySem.strKind C.prog C.w) vd [] := dkeep D1 fun o e => y2.keep _ _ nW e
  obtain ⟨oD, eD⟩ : ∃ o, h2.get? vd = some o := let ⟨o, _, _, e, _⟩ := D2; ⟨o, e⟩
  refine wpAny_execs_cons (wpAny_For ((hit _).run A { s with heap := h2, toks := tk2 } g _ _ RM hg y2.gh F2 S2 fun I fp wr P Md St g3 h3 tk3 M z S3 hwr st3 => ?_) hf)
  have F3 := F2.stepP z
  have pw : ∀ a, C.p = some a → a ∉ wr := fun a e q => by
    obtain ⟨_, _, ⟨_, e', _⟩, _⟩ := S2 a e
    rw [(hwr a q).1] at e'; cases e'
  have Lw : env.locals ∉ wr := fun q => by obtain ⟨o, e⟩ := F2.has; rw [(hwr _ q).1] at e; cases e
  have cw : ∀ y c, env.cells.lookup y = some c → c ∉ wr := fun y c e q => by
    obtain ⟨_, _, _, o, _, e', _⟩ := F2.cg y c e
    rw [(hwr c q).1] at e'; cases e'
  have vw : vd ∉ wr := fun q => by rw [(hwr _ q).1] at eD; cases eD
  have go : ∀ (sI : Str) (dI : PyData) (la lb : List PyData), (∀ vd, EJ C n env ((y, .dat (.str sI)) :: (x, .val (.ref vd)) :: ρ) la val (.dat dI) lb) → ∀ (v : Value) (g5 h5 : Heap) (tk5 : Nat) (Qf : Flow → Shared → Prop) (E₁ E₂ : Value → Shared → Prop) (kvs : List (Str × Value)),
      Le C.h₀ g5 → Le g5 h5 → FR g5 C.p env ((x, .val (.ref vd)) :: ρ) h5 → ST g5 C.p la h5 → g5.get? vd = none → h5.DictOf (PySem.strKind C.prog C.w) vd kvs → kvs.length ≤ 10 → Rd g5 v (.str sI) →
      (∀ g₃ h₃ tk₃ u, Stp (fun b => WL C.p env b ∨ b = vd) g5 h5 g₃ h₃ → FR g₃ C.p env ((x, .val (.ref vd)) :: ρ) h₃ → ST g₃ C.p lb h₃ → g₃.get? vd = none → h₃.DictOf (PySem.strKind C.prog C.w) vd (stored kvs sI u) → Rd g₃ u dI → Le g5 g₃ → Qf .next { s with heap := h₃, toks := tk₃ }) →
      wpAny (model C.prog C.w) A (PySem.assign (.Name y py) env v) (fun _ s₂ => wpAny (model C.prog C.w) A (execs [.Assign [.Subscript (.Name x vx) (.Name y yx) sp] val vp] env) Qf E₁ s₂) E₂ { s with heap := h5, toks := tk5 } := by
    intro sI dI la lb hval v g5 h5 tk5 Qf E₁ E₂ kvs hg5 gh5 F5 S5 gv5 D5 hz hv kk
    refine wpAny_assign_Name (store_J (a := .dat (.str sI)) (s := { s with heap := h5, toks := tk5 }) hy gh5 F5 S5 hv fun h6 tk6 y6 F6 S6 => ?_)
    have D6 := dkeep D5 fun o e => y6.keep _ _ nW e
    refine wpAny_execs_cons (wpAny_Assign_Subscript ((hval vd).run A { s with heap := h6, toks := tk6 } g5 _ _ RM hg5 y6.gh F6 S6 fun u g7 h7 tk7 x7 S7 hu => ?_) hs')
    refine (EJ.name_l (a := .val (.ref vd)) (by rw [List.lookup_cons, hxy]; simp) kx hx.1 dx).run A { s with heap := h7, toks := tk7 } g7 _ _ RM (hg5.trans x7.gg) x7.gh (F6.stepP x7) S7 fun w g8 h8 tk8 x8 S8 hw => ?_
    cases hw
    refine (EJ.name_l (a := .dat (.str sI)) (by rw [List.lookup_cons]; simp) ky hy.1 dy).run A { s with heap := h8, toks := tk8 } g8 _ _ RM ((hg5.trans x7.gg).trans x8.gg) x8.gh ((F6.stepP x7).stepP x8) S8 fun w g9 h9 tk9 x9 S9 hw => ?_
    obtain ⟨t, rfl⟩ := Rd.str_inv hw
    have D9 := dkeep (dkeep (dkeep D6 fun o e => x7.keep _ _ vpp e) fun o e => x8.keep _ _ vpp e) fun o e => x9.keep _ _ vpp e
    have T9 : Stp (WL C.p env) g5 h5 g9 h9 := y6.trans' ((x7.trans' x8).trans' x9).up
    refine wpAny_setItem_pairs (s := { s with heap := h9, toks := tk9 }) (knd := PySem.strKind C.prog C.w) (k := sI) (by simp [PySem.strKind, Value.isStrOf]) D9 (fun h10 D10 s10 => wpAny_execs_nil ?_) (by rw [sizeLine_eq]; omega)
    have gv9 : g9.get? vd = none := by obtain ⟨o, _, _, e, _⟩ := D5; exact T9.new _ _ e gv5
    obtain ⟨oX, eX⟩ : ∃ o, h10.get? vd = some o := let ⟨o, _, _, e, _⟩ := D10; ⟨o, e⟩
    have y10 : Stp (fun b => b = vd) g9 h9 g9 h10 := Stp.same T9.gh gv9 rfl s10 eX
    have F6' : FR g5 C.p env ((x, .val (.ref vd)) :: ρ) h6 := F6.sub fun z a e => by
      rw [List.lookup_cons]
      cases q : z == y with
      | true =>
        rw [beq_iff_eq.mp q, List.lookup_cons, hρy] at e
        cases q2 : y == x with
        | true => rw [beq_iff_eq.mp q2, beq_self_eq_true] at hxy; cases hxy
        | false => rw [q2] at e; cases e
      | false => exact e
    exact kk g9 h10 _ u (T9.trans y10 (fun _ _ _ q => .inl q) fun _ _ _ q => .inr q) ((((F6'.stepP x7).stepP x8).stepP x9).step y10 (fun q => vl q.symm) fun z c e q => vc z (q ▸ e)) (S9.step y10 fun a e q => vpp (by rw [e, q])) gv9 D10 ((Rd.mono hu x8.gg).mono x9.gg) T9.gg
  refine for_coreX (s := { s with heap := h2, toks := tk2 }) (h' := h3) (tk := tk3) (g := g) (W := fun b => WL C.p env b ∨ b = vd)
    (J := fun i g h => FR g C.p env ((x, .val (.ref vd)) :: ρ) h ∧ ST g C.p (if i = 0 then l else if i = 1 then l₁ else l₂) h ∧ g.get? vd = none ∧ ∃ kvs, h.DictOf (PySem.strKind C.prog C.w) vd kvs ∧ KvR g (Ty.pS false) (Ty.pS true) (.tuple (wayL (V false))) (.tuple (wayL (V true))) i kvs)
    hg M (z.weak fun _ _ _ q => .inl (isP_WL q)) ⟨F3, S3, z.new _ _ eD gvd, [], dkeep D2 (fun o e => z.keep _ _ vpp e), rfl⟩ (fun b hb => ⟨(hwr b hb).1, (hwr b hb).2, fun q => ?_⟩) st3 (fun i g h h' hJ kk gh' => ?_) (fun i iv v g5 h5 tk5 Qf E₁ E₂ hiv hg5 gh5 hJ hR kk => ?_) fun g6 h6 tk6 T6 hJ => ?_
  · rcases q with (q | q | ⟨_, y, q⟩) | q
    · exact pw b q hb
    · exact Lw (q ▸ hb)
    · exact cw y b q hb
    · exact vw (q ▸ hb)
  · obtain ⟨a1, a2, a3, kvs, a4, a5⟩ := hJ
    exact ⟨a1.kept kk Lw cw, a2.kept kk pw, a3, kvs, dkeep a4 fun o e => kk _ _ vw e, a5⟩
  · obtain ⟨F5, S5, gv5, kvs, D5, K5⟩ := hJ
    match i, hiv, S5, K5, kk with
    | 0, hiv, S5, K5, kk =>
      cases hiv
      cases K5
      exact go _ _ _ _ hval0 v g5 h5 tk5 Qf E₁ E₂ [] hg5 gh5 F5 S5 gv5 D5 (Nat.zero_le _) hR fun g₃ h₃ tk₃ u T F' S' gv' D' hu _ => kk g₃ h₃ tk₃ T ⟨F', S', gv', _, D', u, by simp [stored], hu⟩
    | 1, hiv, S5, K5, kk =>
      cases hiv
      obtain ⟨u0, rfl, h0⟩ := K5
      exact go _ _ _ _ hval1 v g5 h5 tk5 Qf E₁ E₂ _ hg5 gh5 F5 S5 gv5 D5 (by simp) hR fun g₃ h₃ tk₃ u T F' S' gv' D' hu k5 => kk g₃ h₃ tk₃ T ⟨F', S', gv', _, D', u0, u, by simp [stored, Ty.pS, show ¬ (Str.ofString "P" = Str.ofString "Q") by decide], h0.mono k5, hu⟩
    | i + 2, hiv, _, _, _ => cases hiv
  · show wpAny _ _ (execs rest env) _ _ _
    obtain ⟨F6, S6, gv6, kvs, D6, u0, u1, rfl, r0, r1⟩ := hJ
    obtain ⟨o, es, ep, e1, e2⟩ := id D6
    have T : Stp (fun b => WL C.p env b ∨ b = vd) g s.heap g6 h6 := ((x1.trans y2 (W'' := fun b => WL C.p env b ∨ b = vd) (fun _ _ _ q => q.elim) fun _ _ _ q => .inl q)).trans T6 (fun _ _ _ q => q) fun _ _ _ q => q
    have T' : Stp (WL C.p env) g s.heap g6 h6 := T.weak fun b o e q => q.elim id fun q => by rw [q, hvn] at e; cases e
    obtain ⟨g7, T7, gg, eV, n7⟩ := T'.freeze hvn e1
    have D7 : g7.DictOf (PySem.strKind C.prog C.w) vd [(Ty.pS false, u0), (Ty.pS true, u1)] := ⟨o, es, ep, eV, e2⟩
    have hV : VarP C.prog C.w V g7 (.ref vd) := ⟨vd, _, rfl, D7.mapOf, fun q => by
      cases q
      · exact ⟨u0, by simp [valueAt], r0.mono gg⟩
      · exact ⟨u1, by simp [valueAt, Ty.pS, show ¬ (Str.ofString "P" = Str.ofString "Q") by decide], r1.mono gg⟩⟩
    have F7 : FR g7 C.p env ((x, varAV C V) :: ρ) h6 := by
      refine ⟨let ⟨m, hn, q⟩ := F6.ns; ⟨m, hn, fun z a e kz => ?_⟩, fun z a e kz => ?_, n7 _ (fun q => vl q.symm) F6.lg, F6.lp, fun z c e => let ⟨q1, q2⟩ := F6.cg z c e; ⟨n7 c (fun q => vc z (q ▸ e)) q1, q2⟩, F6.cu⟩
      · rw [List.lookup_cons] at e
        cases qz : z == x with
        | true =>
          rw [qz] at e; cases e
          obtain ⟨v, m1, m2⟩ := q z (.val (.ref vd)) (by rw [List.lookup_cons, qz]) kz
          cases m2
          exact ⟨_, m1, hV⟩
        | false =>
          rw [qz] at e
          obtain ⟨v, m1, m2⟩ := q z a (by rw [List.lookup_cons, qz]; exact e) kz
          exact ⟨v, m1, m2.mono gg⟩
      · rw [List.lookup_cons] at e
        cases qz : z == x with
        | true => exact absurd (by rw [beq_iff_eq.mp qz]; exact kx) kz
        | false =>
          rw [qz] at e
          obtain ⟨c, oc, v, m0, m1, m2, m3⟩ := F6.cell z a (by rw [List.lookup_cons, qz]; exact e) kz
          exact ⟨c, oc, v, m0, m1, m2, m3.mono gg⟩
    have S7 : ST g7 C.p l₂ h6 := fun a e => by
      obtain ⟨q1, vs, q2, q3⟩ := S6 a e
      exact ⟨n7 a (fun q => vpp (by rw [← q, e])) q1, vs, q2, q3.mono gg⟩
    exact hrest.run A { s with heap := h6, toks := tk6 } g7 _ _ RM (hg.trans T7.gg) T7.gh F7 S7 fun f g8 h8 tk8 x8 F8 S8 hfl => k f g8 h8 tk8 (T7.trans' x8) F8 S8 hfl
end
end
section
/-! plain: what the law asks -/
theorem regP_refl (ps : PL) (r : Int) (w : Way) : regP ps r r w = ps := by
  cases w <;> simp [regP, note]
theorem belowP_refl (V : Ways) : ∀ (t : Ty) (w : Way) (ps : PL), belowP V t t w ps = ps
  | .int, w, ps => rfl
  | .ref r m t, w, ps => by simp only [belowP_int, belowP_ref, belowP_box, belowP_arr, belowP_tup, belowP_adt, regP_refl, belowP_refl V t]; split <;> rfl
  | .box t, w, ps => by simp only [belowP_int, belowP_ref, belowP_box, belowP_arr, belowP_tup, belowP_adt, belowP_refl V t]; split <;> rfl
  | .arr t, w, ps => by simp only [belowP_int, belowP_ref, belowP_box, belowP_arr, belowP_tup, belowP_adt, belowP_refl V t]; split <;> rfl
  | .tup a b, w, ps => by simp only [belowP_int, belowP_ref, belowP_box, belowP_arr, belowP_tup, belowP_adt, belowP_refl V a, belowP_refl V b]; split <;> rfl
  | .adt q r a b, w, ps => by simp only [belowP_int, belowP_ref, belowP_box, belowP_arr, belowP_tup, belowP_adt, regP_refl, belowP_refl V a, belowP_refl V b]; split <;> rfl
theorem innerW_eq {a : Way} (b : Way) (h : a ≠ .bi) : innerW a b = within a b := by
  cases a <;> cases b <;> first | rfl | exact absurd rfl h
theorem within_in {w : Way} (m : Bool) (h : w ≠ .bi) : (if m then Way.inn else w) = within w (if m then .inn else .co) := by
  cases w <;> cases m <;> first | rfl | exact absurd rfl h
theorem dueP_app (ps : PL) (xs ys : List PW) : dueP ps (xs ++ ys) = dueP (dueP ps xs) ys := List.foldl_append
theorem dueP_bi : ∀ (zs : List PW) (ps : PL), (∀ z ∈ zs, z.1.2 = .bi) → dueP ps zs = ps
  | [], ps, _ => rfl
  | z :: zs, ps, h => by
    show dueP (regP ps z.1.1 z.2.1 z.1.2) zs = ps
    rw [h z List.mem_cons_self, show regP ps z.1.1 z.2.1 .bi = ps from rfl]
    exact dueP_bi zs ps fun y hy => h y (List.mem_cons_of_mem _ hy)
theorem within_bi (a : Way) : within .bi a = .bi := by cases a <;> rfl
def plz (V : Ways) : Ty → Ty → Way → List ((Int × Int) × Way)
  | .ref r _ t, .ref r' m' u, w => ((r, r'), w) :: plz V t u (within w (if m' then .inn else .co))
  | .box t, .box u, w => plz V t u w
  | .arr t, .arr u, w => plz V t u w
  | .tup a b, .tup a' b', w => plz V a a' w ++ plz V b b' w
  | .adt q r a b, .adt _ r' a' b', w => ((r, r'), within w (V q).1) :: (plz V a a' (within w (V q).2.1) ++ plz V b b' (within w (V q).2.2))
  | _, _, _ => []
def dueZ (ps : PL) (zs : List ((Int × Int) × Way)) : PL := zs.foldl (fun ps x => regP ps x.1.1 x.1.2 x.2) ps
section
variable {V : Ways} {t u a b a' b' : Ty} {r r' : Int} {m m' q q' : Bool} {w : Way}
theorem plz_int : plz V .int .int w = [] := rfl
theorem plz_ref : plz V (.ref r m t) (.ref r' m' u) w = ((r, r'), w) :: plz V t u (within w (if m' then .inn else .co)) := rfl
theorem plz_box : plz V (.box t) (.box u) w = plz V t u w := rfl
theorem plz_arr : plz V (.arr t) (.arr u) w = plz V t u w := rfl
theorem plz_tup : plz V (.tup a b) (.tup a' b') w = plz V a a' w ++ plz V b b' w := rfl
theorem plz_adt : plz V (.adt q r a b) (.adt q' r' a' b') w = ((r, r'), within w (V q).1) :: (plz V a a' (within w (V q).2.1) ++ plz V b b' (within w (V q).2.2)) := rfl
end
theorem Sm.snd {t u : Ty} (h : Sm t u) : Sm u u := Sm.refl u
theorem plz_zip {V : Ways} {t u : Ty} (h : Sm t u) : ∀ w w', ((places V t u w).zip (places V u u w')).map (fun z => ((z.1.1, z.2.1), z.1.2)) = plz V t u w := by
  have hl : ∀ {t u : Ty}, Sm t u → ∀ w w', (places V t u w).length = (places V u u w').length := by
    intro t u h
    induction h with
    | int => intro w w'; rfl
    | ref h ih => intro w w'; simp only [places_int, places_ref, places_box, places_arr, places_tup, places_adt, List.length_cons]; rw [ih]
    | box h ih => intro w w'; exact ih w w'
    | arr h ih => intro w w'; exact ih w w'
    | tup h1 h2 ih1 ih2 => intro w w'; simp only [places_int, places_ref, places_box, places_arr, places_tup, places_adt, List.length_append]; rw [ih1 w w', ih2 w w']
    | adt h1 h2 ih1 ih2 => intro w w'; simp only [places_int, places_ref, places_box, places_arr, places_tup, places_adt, List.length_cons, List.length_append]; rw [ih1, ih2]
  induction h with
  | int => intro w w'; rfl
  | ref h ih => intro w w'; simp only [places_int, places_ref, places_box, places_arr, places_tup, places_adt, plz_int, plz_ref, plz_box, plz_arr, plz_tup, plz_adt, List.zip_cons_cons, List.map_cons, ih]
  | box h ih => intro w w'; exact ih w w'
  | arr h ih => intro w w'; exact ih w w'
  | tup h1 h2 ih1 ih2 => intro w w'; simp only [places_int, places_ref, places_box, places_arr, places_tup, places_adt, plz_int, plz_ref, plz_box, plz_arr, plz_tup, plz_adt]; rw [List.zip_append (hl h1 w w'), List.map_append, ih1, ih2]
  | adt h1 h2 ih1 ih2 => intro w w'; simp only [places_int, places_ref, places_box, places_arr, places_tup, places_adt, plz_int, plz_ref, plz_box, plz_arr, plz_tup, plz_adt, List.zip_cons_cons, List.map_cons]; rw [List.zip_append (hl h1 _ _), List.map_append, ih1, ih2]
theorem dueP_plz {V : Ways} {t u : Ty} (h : Sm t u) (w w' : Way) (ps : PL) : dueP ps ((places V t u w).zip (places V u u w')) = dueZ ps (plz V t u w) := by
  rw [← plz_zip h w w']
  unfold dueP dueZ
  rw [List.foldl_map]
theorem dueZ_app (ps : PL) (xs ys : List ((Int × Int) × Way)) : dueZ ps (xs ++ ys) = dueZ (dueZ ps xs) ys := List.foldl_append
theorem plz_bi {V : Ways} {t u : Ty} (h : Sm t u) : ∀ x ∈ plz V t u .bi, x.2 = .bi := by
  induction h with
  | int => intro x hx; cases hx
  | ref h ih =>
    intro x hx
    rw [plz_ref, within_bi] at hx
    rcases List.mem_cons.mp hx with rfl | h
    · rfl
    · exact ih x h
  | box h ih => exact ih
  | arr h ih => exact ih
  | tup h1 h2 ih1 ih2 => intro x hx; exact (List.mem_append.mp hx).elim (ih1 x) (ih2 x)
  | adt h1 h2 ih1 ih2 =>
    intro x hx
    rw [plz_adt, within_bi, within_bi, within_bi] at hx
    rcases List.mem_cons.mp hx with rfl | h
    · rfl
    · exact (List.mem_append.mp h).elim (ih1 x) (ih2 x)
theorem dueZ_bi : ∀ (zs : List ((Int × Int) × Way)) (ps : PL), (∀ z ∈ zs, z.2 = .bi) → dueZ ps zs = ps
  | [], ps, _ => rfl
  | z :: zs, ps, h => by
    show dueZ (regP ps z.1.1 z.1.2 z.2) zs = ps
    rw [h z List.mem_cons_self, show regP ps z.1.1 z.1.2 .bi = ps from rfl]
    exact dueZ_bi zs ps fun y hy => h y (List.mem_cons_of_mem _ hy)
theorem belowP_plz {V : Ways} {t u : Ty} (h : Sm t u) : ∀ w ps, belowP V t u w ps = dueZ ps (plz V t u w) := by
  have hb : ∀ {t u : Ty}, Sm t u → ∀ ps, ps = dueZ ps (plz V t u .bi) := fun h ps => (dueZ_bi _ ps (plz_bi h)).symm
  induction h with
  | int => intro w ps; rfl
  | @ref r r' m m' t u h ih =>
    intro w ps
    by_cases e : w = .bi
    · subst e; exact hb (Sm.ref h) ps
    · rw [belowP_ref, if_neg e, ih, within_in m' e]; rfl
  | @box t u h ih =>
    intro w ps
    by_cases e : w = .bi
    · subst e; exact hb (Sm.box h) ps
    · rw [belowP_box, if_neg e, ih]; rfl
  | @arr t u h ih =>
    intro w ps
    by_cases e : w = .bi
    · subst e; exact hb (Sm.arr h) ps
    · rw [belowP_arr, if_neg e, ih]; rfl
  | @tup a b a' b' h1 h2 ih1 ih2 =>
    intro w ps
    by_cases e : w = .bi
    · subst e; exact hb (Sm.tup h1 h2) ps
    · rw [belowP_tup, if_neg e, ih1, ih2, plz_tup, dueZ_app]
  | @adt q r r' a b a' b' h1 h2 ih1 ih2 =>
    intro w ps
    by_cases e : w = .bi
    · subst e; exact hb (Sm.adt h1 h2) ps
    · rw [belowP_adt, if_neg e, ih1, ih2, innerW_eq _ e, innerW_eq _ e, innerW_eq _ e, plz_adt, ← dueZ_app]; rfl
end
section
/-! plain: members -/
def tells (x : (Int × Int) × Way) (p : Int × Int) : Prop := p.1 ≠ p.2 ∧ ((x.2 ≠ .bi ∧ p = x.1) ∨ (x.2 = .inn ∧ p = (x.1.2, x.1.1)))
theorem mem_note {ps : PL} {a b : Int} {p : Int × Int} : p ∈ note ps a b ↔ p ∈ ps ∨ (a ≠ b ∧ p = (a, b)) := by
  unfold note
  split
  · rename_i h
    rw [List.mem_append, List.mem_singleton]
    exact ⟨fun q => q.elim .inl fun e => .inr ⟨h.1, e⟩, fun q => q.elim .inl fun e => .inr e.2⟩
  · rename_i h
    refine ⟨.inl, fun q => q.elim id fun e => ?_⟩
    rw [e.2]
    exact Decidable.byContradiction fun k => h ⟨e.1, k⟩
theorem note_nodup {ps : PL} {a b : Int} (h : ps.Nodup) : (note ps a b).Nodup := by
  unfold note
  split
  · rename_i k
    rw [List.nodup_append]
    refine ⟨h, by simp, ?_⟩
    intro x hx y hy e
    rw [List.mem_singleton.mp hy] at e
    exact k.2 (e ▸ hx)
  · exact h
theorem mem_regP {ps : PL} {a b : Int} {w : Way} {p : Int × Int} : p ∈ regP ps a b w ↔ p ∈ ps ∨ tells ((a, b), w) p := by
  cases w
  · show p ∈ note ps a b ↔ _
    rw [mem_note]
    refine or_congr Iff.rfl ⟨fun ⟨h, e⟩ => ⟨by rw [e]; exact h, .inl ⟨nofun, e⟩⟩, fun ⟨h, e⟩ => ?_⟩
    rcases e with ⟨_, e⟩ | ⟨e, _⟩
    · exact ⟨by rw [e] at h; exact h, e⟩
    · cases e
  · show p ∈ note (note ps a b) b a ↔ _
    rw [mem_note, mem_note, or_assoc]
    refine or_congr Iff.rfl ⟨fun h => ?_, fun ⟨h, e⟩ => ?_⟩
    · rcases h with ⟨h, e⟩ | ⟨h, e⟩
      · exact ⟨by rw [e]; exact h, .inl ⟨nofun, e⟩⟩
      · exact ⟨by rw [e]; exact h, .inr ⟨rfl, e⟩⟩
    · rcases e with ⟨_, e⟩ | ⟨_, e⟩
      · exact .inl ⟨by rw [e] at h; exact h, e⟩
      · exact .inr ⟨by rw [e] at h; exact h, e⟩
  · show p ∈ ps ↔ _
    refine ⟨.inl, fun h => h.elim id fun ⟨_, e⟩ => ?_⟩
    rcases e with ⟨e, _⟩ | ⟨e, _⟩
    · exact absurd rfl e
    · cases e
theorem regP_nodup {ps : PL} {a b : Int} {w : Way} (h : ps.Nodup) : (regP ps a b w).Nodup := by
  cases w
  · exact note_nodup h
  · exact note_nodup (note_nodup h)
  · exact h
theorem mem_dueZ : ∀ {zs : List ((Int × Int) × Way)} {ps : PL} {p : Int × Int}, p ∈ dueZ ps zs ↔ p ∈ ps ∨ ∃ z ∈ zs, tells z p
  | [], ps, p => by simp [dueZ]
  | z :: zs, ps, p => by
    show p ∈ dueZ (regP ps z.1.1 z.1.2 z.2) zs ↔ _
    rw [mem_dueZ, mem_regP, or_assoc]
    refine or_congr Iff.rfl ⟨fun h => ?_, fun ⟨y, hy, h⟩ => ?_⟩
    · rcases h with h | ⟨y, hy, h⟩
      · exact ⟨z, List.mem_cons_self, h⟩
      · exact ⟨y, List.mem_cons_of_mem _ hy, h⟩
    · rcases List.mem_cons.mp hy with rfl | hy
      · exact .inl h
      · exact .inr ⟨y, hy, h⟩
theorem dueZ_nodup : ∀ {zs : List ((Int × Int) × Way)} {ps : PL}, ps.Nodup → (dueZ ps zs).Nodup
  | [], ps, h => h
  | z :: zs, ps, h => dueZ_nodup (zs := zs) (regP_nodup h)
/-- the regions of a type -/
inductive In6 : Ty → Prop
  | int : In6 .int
  | ref {r : Int} {m : Bool} {t : Ty} : 1 ≤ r → r ≤ 6 → In6 t → In6 (.ref r m t)
  | box {t : Ty} : In6 t → In6 (.box t)
  | arr {t : Ty} : In6 t → In6 (.arr t)
  | tup {a b : Ty} : In6 a → In6 b → In6 (.tup a b)
  | adt {q : Bool} {r : Int} {a b : Ty} : 1 ≤ r → r ≤ 6 → In6 a → In6 b → In6 (.adt q r a b)
theorem plz_in {V : Ways} {t u : Ty} (ht : In6 t) (hu : In6 u) (h : Sm t u) : ∀ w, ∀ x ∈ plz V t u w, 1 ≤ x.1.1 ∧ x.1.1 ≤ 6 ∧ 1 ≤ x.1.2 ∧ x.1.2 ≤ 6 := by
  induction h with
  | int => intro w x hx; simp [plz_int, plz_ref, plz_box, plz_arr, plz_tup, plz_adt] at hx
  | ref h ih =>
    cases ht with
    | ref a b c =>
    cases hu with
    | ref a' b' c' =>
    intro w x hx
    rcases List.mem_cons.mp hx with rfl | hx
    · exact ⟨a, b, a', b'⟩
    · exact ih c c' _ x hx
  | box h ih =>
    cases ht with
    | box c => cases hu with | box c' => intro w x hx; exact ih c c' _ x hx
  | arr h ih =>
    cases ht with
    | arr c => cases hu with | arr c' => intro w x hx; exact ih c c' _ x hx
  | tup h1 h2 ih1 ih2 =>
    cases ht with
    | tup c d => cases hu with | tup c' d' => intro w x hx; exact (List.mem_append.mp hx).elim (ih1 c c' _ x) (ih2 d d' _ x)
  | adt h1 h2 ih1 ih2 =>
    cases ht with
    | adt a b c d =>
    cases hu with
    | adt a' b' c' d' =>
    intro w x hx
    rcases List.mem_cons.mp hx with rfl | hx
    · exact ⟨a, b, a', b'⟩
    · exact (List.mem_append.mp hx).elim (ih1 c c' _ x) (ih2 d d' _ x)
theorem dueZ_ok {zs : List ((Int × Int) × Way)} {ps : PL} (hz : ∀ x ∈ zs, 1 ≤ x.1.1 ∧ x.1.1 ≤ 6 ∧ 1 ≤ x.1.2 ∧ x.1.2 ≤ 6) (hp : ∀ p ∈ ps, okP p) : ∀ p ∈ dueZ ps zs, okP p := by
  intro p h
  rcases mem_dueZ.mp h with h | ⟨z, hm, hn, e⟩
  · exact hp p h
  · have k := hz z hm
    rcases e with ⟨_, rfl⟩ | ⟨_, rfl⟩
    · exact ⟨k.1, k.2.1, k.2.2.1, k.2.2.2, hn⟩
    · exact ⟨k.2.2.1, k.2.2.2, k.1, k.2.1, hn⟩
theorem genT_in : ∀ (d : Nat) {s : Src}, SrcOk s → In6 (genT d s).1
  | 0, s, h => In6.int
  | d + 1, s, h => by
    have h1 : SrcOk (takeS s 7) := takeS_ok h (by decide)
    have h2 : SrcOk (takeS (takeS s 7) 6) := takeS_ok h1 (by decide)
    have h3 := genT_ok d (genT_ok d h1)
    have t1 := takeV_ok (s := takeS s 7) (t := 6) (by decide)
    have t3 := takeV_ok (s := (genT d (genT d (takeS s 7)).2).2) (t := 6) (by decide)
    unfold genT
    split
    · exact In6.int
    · split
      · exact In6.ref (by omega) (by omega) (genT_in d h2)
      · split
        · exact In6.box (genT_in d h1)
        · split
          · exact In6.tup (genT_in d h1) (In6.arr (genT_in d (genT_ok d h1)))
          · exact In6.adt (by omega) (by omega) (genT_in d h1) (genT_in d (genT_ok d h1))
theorem othT_in : ∀ (t : Ty) (s : Src), In6 (othT t s).1
  | .int, s => In6.int
  | .ref r m t, s => by
    have t1 := takeV_ok (s := s) (t := 6) (by decide)
    have t2 := takeV_ok (s := takeS s 3) (t := 6) (by decide)
    unfold othT
    split
    · exact In6.ref (by omega) (by omega) (othT_in t _)
    · exact In6.ref (by omega) (by omega) (othT_in t _)
  | .box t, s => In6.box (othT_in t s)
  | .arr t, s => In6.arr (othT_in t s)
  | .tup a b, s => In6.tup (othT_in a s) (othT_in b _)
  | .adt q r a b, s => by
    have t1 := takeV_ok (s := (othT b (othT a s).2).2) (t := 6) (by decide)
    exact In6.adt (by omega) (by omega) (othT_in a s) (othT_in b _)
theorem genT_ht : ∀ (d : Nat) (s : Src), (genT d s).1.ht ≤ 2 * d
  | 0, s => Nat.le_refl _
  | d + 1, s => by
    have a := genT_ht d (takeS (takeS s 7) 6)
    have b := genT_ht d (takeS s 7)
    have c := genT_ht d (genT d (takeS s 7)).2
    unfold genT
    split
    · exact Nat.zero_le _
    · split
      · simp only [Ty.ht]; omega
      · split
        · simp only [Ty.ht]; omega
        · split
          · simp only [Ty.ht]; omega
          · simp only [Ty.ht]; omega
theorem Sm.ht {t u : Ty} (h : Sm t u) : t.ht = u.ht := by
  induction h <;> simp_all [Ty.ht]
theorem Sm.cnt {t u : Ty} (h : Sm t u) : t.cnt = u.cnt := by
  induction h <;> simp_all [Ty.cnt]
theorem one_le_pow (n : Nat) : 1 ≤ 2 ^ n := Nat.one_le_two_pow
theorem cnt_ht : ∀ t : Ty, t.cnt + 2 ≤ 2 * 2 ^ t.ht
  | .int => Nat.le_refl _
  | .ref _ _ t => by have := cnt_ht t; simp only [Ty.cnt, Ty.ht, Nat.pow_succ]; have := Nat.one_le_two_pow (n := t.ht); omega
  | .box t => by have := cnt_ht t; simp only [Ty.cnt, Ty.ht, Nat.pow_succ]; omega
  | .arr t => by have := cnt_ht t; simp only [Ty.cnt, Ty.ht, Nat.pow_succ]; omega
  | .tup a b => by
    have x := cnt_ht a; have y := cnt_ht b
    have p1 : 2 ^ a.ht ≤ 2 ^ max a.ht b.ht := Nat.pow_le_pow_right (by decide) (by omega)
    have p2 : 2 ^ b.ht ≤ 2 ^ max a.ht b.ht := Nat.pow_le_pow_right (by decide) (by omega)
    simp only [Ty.cnt, Ty.ht, Nat.pow_succ]; omega
  | .adt _ _ a b => by
    have x := cnt_ht a; have y := cnt_ht b
    have p1 : 2 ^ a.ht ≤ 2 ^ max a.ht b.ht := Nat.pow_le_pow_right (by decide) (by omega)
    have p2 : 2 ^ b.ht ≤ 2 ^ max a.ht b.ht := Nat.pow_le_pow_right (by decide) (by omega)
    simp only [Ty.cnt, Ty.ht, Nat.pow_succ]; omega
end
section
/-! plain: chains of two, and the whole read under a mutable reference -/
def Less (a b : Way) : Prop := (b = .bi ↔ a = .bi) ∧ (a = .inn → b = .inn)
theorem Less.refl (a : Way) : Less a a := ⟨Iff.rfl, id⟩
theorem Less.within {a b x y : Way} (h : Less a b) (k : Less x y) : Less (within a x) (within b y) := by
  obtain ⟨h1, h2⟩ := h
  obtain ⟨k1, k2⟩ := k
  cases a <;> cases b <;> cases x <;> cases y <;> simp_all [Less, Mine.within]
inductive Mt : Ty → Ty → Prop
  | int : Mt .int .int
  | ref {r r' : Int} {m m' : Bool} {t u : Ty} : (m' = true → m = true) → Mt t u → Mt (.ref r m t) (.ref r' m' u)
  | box {t u : Ty} : Mt t u → Mt (.box t) (.box u)
  | arr {t u : Ty} : Mt t u → Mt (.arr t) (.arr u)
  | tup {a b a' b' : Ty} : Mt a a' → Mt b b' → Mt (.tup a b) (.tup a' b')
  | adt {q : Bool} {r r' : Int} {a b a' b' : Ty} : Mt a a' → Mt b b' → Mt (.adt q r a b) (.adt q r' a' b')
theorem othT_mt : ∀ (t : Ty) (s : Src), Mt t (othT t s).1
  | .int, s => Mt.int
  | .ref r m t, s => by
    unfold othT
    split
    · rename_i h; exact Mt.ref (fun _ => h) (othT_mt t _)
    · exact Mt.ref (fun h => by cases h) (othT_mt t _)
  | .box t, s => Mt.box (othT_mt t s)
  | .arr t, s => Mt.arr (othT_mt t s)
  | .tup a b, s => Mt.tup (othT_mt a s) (othT_mt b _)
  | .adt q r a b, s => Mt.adt (othT_mt a s) (othT_mt b _)
theorem Mt.sm {t u : Ty} (h : Mt t u) : Sm t u := by
  induction h with
  | int => exact Sm.int
  | ref _ _ ih => exact Sm.ref ih
  | box _ ih => exact Sm.box ih
  | arr _ ih => exact Sm.arr ih
  | tup _ _ i j => exact Sm.tup i j
  | adt _ _ i j => exact Sm.adt i j
theorem Sm.trans {t u : Ty} (h : Sm t u) : ∀ {v : Ty}, Sm u v → Sm t v := by
  induction h with
  | int => intro v k; exact k
  | ref _ ih => intro v k; cases k with | ref k => exact Sm.ref (ih k)
  | box _ ih => intro v k; cases k with | box k => exact Sm.box (ih k)
  | arr _ ih => intro v k; cases k with | arr k => exact Sm.arr (ih k)
  | tup _ _ i j => intro v k; cases k with | tup k l => exact Sm.tup (i k) (j l)
  | adt _ _ i j => intro v k; cases k with | adt k l => exact Sm.adt (i k) (j l)
theorem chain {V : Ways} {t u : Ty} (h : Sm t u) : ∀ {v : Ty}, Mt u v → ∀ w1 w3, Less w3 w1 → ∀ x ∈ plz V t v w3, ∃ b w, ((x.1.1, b), w) ∈ plz V t u w1 ∧ ((b, x.1.2), x.2) ∈ plz V u v w3 ∧ Less x.2 w := by
  induction h with
  | int => intro v k w1 w3 l x hx; cases k; simp [plz_int, plz_ref, plz_box, plz_arr, plz_tup, plz_adt] at hx
  | @ref r r' m m' t u h ih =>
    intro v k w1 w3 l x hx
    cases k with
    | @ref _ r'' _ m'' _ v i k =>
    rcases List.mem_cons.mp hx with rfl | hx
    · exact ⟨r', w1, List.mem_cons_self, List.mem_cons_self, l⟩
    · have l' : Less (within w3 (if m'' then .inn else .co)) (within w1 (if m' then .inn else .co)) := l.within (by
        cases m'' <;> cases m' <;> first | exact Less.refl _ | (exact nomatch (i rfl)) | exact ⟨by simp, by simp⟩)
      obtain ⟨b, w, h1, h2, h3⟩ := ih k _ _ l' x hx
      exact ⟨b, w, List.mem_cons_of_mem _ h1, List.mem_cons_of_mem _ h2, h3⟩
  | box h ih => intro v k w1 w3 l x hx; cases k with | box k => exact ih k w1 w3 l x hx
  | arr h ih => intro v k w1 w3 l x hx; cases k with | arr k => exact ih k w1 w3 l x hx
  | tup h1 h2 ih1 ih2 =>
    intro v k w1 w3 l x hx
    cases k with
    | tup k k' =>
    rcases List.mem_append.mp hx with hx | hx
    · obtain ⟨b, w, h1, h2, h3⟩ := ih1 k _ _ l x hx
      exact ⟨b, w, List.mem_append_left _ h1, List.mem_append_left _ h2, h3⟩
    · obtain ⟨b, w, h1, h2, h3⟩ := ih2 k' _ _ l x hx
      exact ⟨b, w, List.mem_append_right _ h1, List.mem_append_right _ h2, h3⟩
  | @adt q r r' a b a' b' h1 h2 ih1 ih2 =>
    intro v k w1 w3 l x hx
    cases k with
    | adt k k' =>
    rcases List.mem_cons.mp hx with rfl | hx
    · exact ⟨r', _, List.mem_cons_self, List.mem_cons_self, l.within (Less.refl _)⟩
    rcases List.mem_append.mp hx with hx | hx
    · obtain ⟨b, w, h1, h2, h3⟩ := ih1 k _ _ (l.within (Less.refl _)) x hx
      exact ⟨b, w, List.mem_cons_of_mem _ (List.mem_append_left _ h1), List.mem_cons_of_mem _ (List.mem_append_left _ h2), h3⟩
    · obtain ⟨b, w, h1, h2, h3⟩ := ih2 k' _ _ (l.within (Less.refl _)) x hx
      exact ⟨b, w, List.mem_cons_of_mem _ (List.mem_append_right _ h1), List.mem_cons_of_mem _ (List.mem_append_right _ h2), h3⟩
theorem reach1_sub {f : PL} {p : Int × Int} (h : p ∈ f) : p ∈ reach1 f := mem_reach1.mpr (.inl h)
theorem reach_of {ps : PL} {p : Int × Int} (h : p ∈ reach1 (srt ps)) : p ∈ reach ps := by
  have key : ∀ (is : List Nat) (f : PL), p ∈ f → p ∈ is.foldl (fun f _ => reach1 f) f := by
    intro is
    induction is with
    | nil => intro f h; exact h
    | cons i is ih => intro f h; exact ih _ (reach1_sub h)
  unfold reach
  rw [show List.range 6 = 0 :: [1, 2, 3, 4, 5] from rfl, List.foldl_cons]
  exact key _ _ h
theorem mem_comps {f : PL} {a b c : Int} (h : (a, b) ∈ f) (k : (b, c) ∈ f) (n : a ≠ c) : (a, c) ∈ comps f :=
  List.mem_flatMap.mpr ⟨_, h, List.mem_flatMap.mpr ⟨_, k, by rw [if_pos ⟨rfl, n⟩]; exact List.mem_singleton.mpr rfl⟩⟩
theorem two {f : PL} {a b c : Int} (h : a ≠ b → (a, b) ∈ f) (k : b ≠ c → (b, c) ∈ f) (n : a ≠ c) : (a, c) ∈ reach f := by
  refine reach_of (mem_reach1.mpr ?_)
  by_cases e1 : a = b
  · subst e1; exact .inl (mem_srt.mpr (k n))
  by_cases e2 : b = c
  · subst e2; exact .inl (mem_srt.mpr (h n))
  exact .inr (mem_comps (mem_srt.mpr (h e1)) (mem_srt.mpr (k e2)) n)
abbrev rel (V : Ways) (t u : Ty) : PL := belowP V t u .co []
theorem rel_eq {V : Ways} {t u : Ty} (h : Sm t u) : rel V t u = dueZ [] (plz V t u .co) := belowP_plz h _ _
theorem mem_rel {V : Ways} {t u : Ty} (h : Sm t u) {p : Int × Int} : p ∈ rel V t u ↔ ∃ z ∈ plz V t u .co, tells z p := by
  rw [rel_eq h, mem_dueZ]; simp
theorem rel_nodup {V : Ways} {t u : Ty} (h : Sm t u) : (rel V t u).Nodup := by rw [rel_eq h]; exact dueZ_nodup List.nodup_nil
theorem rel_ok {V : Ways} {t u : Ty} (h : Sm t u) (ht : In6 t) (hu : In6 u) : ∀ p ∈ rel V t u, okP p := by
  rw [rel_eq h]; exact dueZ_ok (plz_in ht hu h _) (fun p hp => absurd hp List.not_mem_nil)
theorem rel_len {V : Ways} {t u : Ty} (h : Sm t u) (ht : In6 t) (hu : In6 u) : (rel V t u).length ≤ 30 := ok_len (rel_nodup h) (rel_ok h ht hu)
theorem rel_due {V : Ways} {t u : Ty} (h : Sm t u) : dueP [] ((places V t u .co).zip (places V u u .co)) = rel V t u := by rw [dueP_plz h, rel_eq h]
theorem rel_chain {V : Ways} {t u v : Ty} (h : Sm t u) (k : Mt u v) : ∀ p ∈ rel V t v, p ∈ reach (rel V t u ++ rel V u v) := by
  intro p hp
  obtain ⟨x, hx, hn, ht⟩ := (mem_rel (h.trans k.sm)).mp hp
  obtain ⟨b, w, h1, h2, l1, l2⟩ := chain h k .co .co (Less.refl _) x hx
  have m1 : ∀ q, tells ((x.1.1, b), w) q → q ∈ rel V t u ++ rel V u v := fun q hq => List.mem_append_left _ ((mem_rel h).mpr ⟨_, h1, hq⟩)
  have m2 : ∀ q, tells ((b, x.1.2), x.2) q → q ∈ rel V t u ++ rel V u v := fun q hq => List.mem_append_right _ ((mem_rel k.sm).mpr ⟨_, h2, hq⟩)
  rcases ht with ⟨hw, rfl⟩ | ⟨hw, rfl⟩
  · exact two (b := b) (fun n => m1 _ ⟨n, .inl ⟨fun e => hw (l1.mp e), rfl⟩⟩) (fun n => m2 _ ⟨n, .inl ⟨hw, rfl⟩⟩) hn
  · exact two (b := b) (fun n => m2 _ ⟨n, .inr ⟨hw, rfl⟩⟩) (fun n => m1 _ ⟨n, .inr ⟨l2 hw, rfl⟩⟩) hn
/-! under a mutable reference -/
abbrev ins (t : Ty) : Ty := .ref 7 true t
theorem plz_inn {V : Ways} {t u : Ty} (h : Sm t u) : ∀ w, w ≠ .co → ∀ x ∈ plz V t u w, x.2 ≠ .co := by
  have key : ∀ {w : Way} (y : Way), w ≠ .co → within w y ≠ .co := by
    intro w y h; cases w <;> cases y <;> simp_all [within]
  induction h with
  | int => intro w hw x hx; simp [plz_int, plz_ref, plz_box, plz_arr, plz_tup, plz_adt] at hx
  | ref h ih =>
    intro w hw x hx
    rcases List.mem_cons.mp hx with rfl | hx
    · exact hw
    · exact ih _ (key _ hw) x hx
  | box h ih => intro w hw x hx; exact ih w hw x hx
  | arr h ih => intro w hw x hx; exact ih w hw x hx
  | tup h1 h2 ih1 ih2 => intro w hw x hx; exact (List.mem_append.mp hx).elim (ih1 w hw x) (ih2 w hw x)
  | adt h1 h2 ih1 ih2 =>
    intro w hw x hx
    rcases List.mem_cons.mp hx with rfl | hx
    · exact key _ hw
    · exact (List.mem_append.mp hx).elim (ih1 _ (key _ hw) x) (ih2 _ (key _ hw) x)
theorem ins_eq {V : Ways} {t u : Ty} (h : Sm t u) : rel V (ins t) (ins u) = dueZ [] (plz V t u .inn) := by
  rw [rel_eq (Sm.ref h)]
  show dueZ (regP [] 7 7 .co) (plz V t u (within .co (if true then .inn else .co))) = _
  rw [regP_refl]; rfl
theorem ins_ok {V : Ways} {t u : Ty} (h : Sm t u) (ht : In6 t) (hu : In6 u) : ∀ p ∈ rel V (ins t) (ins u), okP p := by
  rw [ins_eq h]; exact dueZ_ok (plz_in ht hu h _) (fun p hp => absurd hp List.not_mem_nil)
theorem ins_nodup {V : Ways} {t u : Ty} (h : Sm t u) : (rel V (ins t) (ins u)).Nodup := rel_nodup (Sm.ref h)
theorem ins_len {V : Ways} {t u : Ty} (h : Sm t u) (ht : In6 t) (hu : In6 u) : (rel V (ins t) (ins u)).length ≤ 30 := ok_len (ins_nodup h) (ins_ok h ht hu)
theorem ins_swap {V : Ways} {t u : Ty} (h : Sm t u) : ∀ p ∈ rel V (ins t) (ins u), (p.2, p.1) ∈ rel V (ins t) (ins u) := by
  rw [ins_eq h]
  intro p hp
  rw [mem_dueZ] at hp ⊢
  rcases hp with hp | ⟨z, hz, hn, e⟩
  · exact absurd hp List.not_mem_nil
  have hw := plz_inn h .inn (by decide) z hz
  refine .inr ⟨z, hz, fun q => hn q.symm, ?_⟩
  have hb : z.2 = .inn := by
    rcases e with ⟨e, _⟩ | ⟨e, _⟩
    · revert e hw; cases z.2 <;> simp
    · exact e
  rcases e with ⟨_, rfl⟩ | ⟨_, rfl⟩
  · exact .inr ⟨hb, rfl⟩
  · exact .inl ⟨by rw [hb]; decide, rfl⟩
end
section
section
variable {C : Cx} {n : Nat} {l : List PyData}
theorem shaped_pL (ps : PL) : SeqAt.shaped (.list (pL ps)) = true := by
  have h : PyData.depthAll (pL ps) ≤ 1 := by
    induction ps with
    | nil => simp [PyData.depthAll]
    | cons q ps ih =>
      rw [show pL (q :: ps) = pD q :: pL ps from rfl]
      simp only [PyData.depthAll, PyData.depth]
      omega
  unfold SeqAt.shaped
  rw [show PyData.canLay0 (.list (pL ps)) = true by rw [PyData.canLay0]; exact lay_pL ps]
  rw [Bool.true_and]
  exact decide_eq_true (by simp only [PyData.depth]; omega)
theorem eqv_pL (ps : PL) : PyData.eqv (.list (pL ps)) (.list (pL ps)) = true := by
  rw [PyData.eqv]; exact SeqAt.eqvAll_refl _ (lay_pL ps)
theorem ned_pL {ps : PL} : OJ2 C n (.dat (.list (pL ps))) (.dat (.list (pL ps))) l (compareOp .NotEq) (.dat (.bool false)) l := by
  have := OJ2.ned (C := C) (n := n) (l := l) (shaped_pL ps) (shaped_pL ps)
  rw [eqv_pL] at this
  exact this
theorem ned_nil : OJ2 C n (.dat (.list [])) (.dat (.list [])) l (compareOp .NotEq) (.dat (.bool false)) l := ned_pL (ps := [])
def wayAt (s : Src) : Way := if takeV s 3 = 0 then .co else if takeV s 3 = 1 then .inn else .bi
theorem way_J (B : Bs C) {a : Addr} (hp : C.p = some a) {s : Src} (hs : SrcOk s) :
    CJ C (n + 2) (.ref 99) [.val (.ref a), .dat (.list [.str (Str.ofString "co"), .str (Str.ofString "in"), .str (Str.ofString "bi")])] (srcL s) (.dat (wayAt s).d) (srcL (takeS s 3)) := by
  have h := takeV_ok (s := s) (t := 3) (by decide)
  refine one_J B hp hs (ds := [.str (Str.ofString "co"), .str (Str.ofString "in"), .str (Str.ofString "bi")]) (by decide) (by decide) ?_
  show [PyData.str (Str.ofString "co"), .str (Str.ofString "in"), .str (Str.ofString "bi")][(takeV s 3).toNat]? = some (wayAt s).d
  unfold wayAt
  rcases (by omega : takeV s 3 = 0 ∨ takeV s 3 = 1 ∨ takeV s 3 = 2) with e | e | e <;> rw [e] <;> rfl
theorem BsJ.freshE {env : Env} {ρ ρ' : Rho} {l₀ : List PyData} {fl : AFl} {x : Str} {px pos : Pos} {e : Expr} {rest : List Stmt} {mk : Addr → AV} (hx : StoreOk env x) (hs : swapsWith e (some (.Name x px)) pos.line env = Pure.pure false) (he : NewJ C n env ρ l e mk l₀)
    (hrest : ∀ b, ∃ l₁, BsJ (C.at b) n env ((x, mk b) :: ρ) l₀ rest ρ' l₁ fl) : BsJ C n env ρ l (.Assign [.Name x px] e pos :: rest) ρ' l fl := BsJ.fresh (lr := fun b => (hrest b).choose) hx hs he fun b => (hrest b).choose_spec
/-- the draws of one turn -/
theorem draws (B : Bs C) {b : Addr} (hp : C.p = some b) {s : Src} (hs : SrcOk s) : ∃ (t u v : Ty) (s1 s2 s3 : Src), CJ C 60 (.ref 106) [.val (.ref b), .dat (.int 3)] (srcL s) (.dat t.dat) (srcL s1) ∧ CJ C 60 (.ref 111) [.val (.ref b), .dat t.dat] (srcL s1) (.dat u.dat) (srcL s2) ∧
    CJ C 60 (.ref 111) [.val (.ref b), .dat u.dat] (srcL s2) (.dat v.dat) (srcL s3) ∧ Mt t u ∧ Mt u v ∧ In6 t ∧ In6 u ∧ In6 v ∧ t.ht ≤ 6 := by
  have h6 : (genT 3 s).1.ht ≤ 6 := genT_ht 3 s
  have k1 := genT_ok 3 hs
  have m1 := othT_mt (genT 3 s).1 (genT 3 s).2
  have k2 := othT_ok (genT 3 s).1 k1
  have e1 := m1.sm.ht
  have m2 := othT_mt (othT (genT 3 s).1 (genT 3 s).2).1 (othT (genT 3 s).1 (genT 3 s).2).2
  exact ⟨_, _, _, _, _, _, type_J B hp 3 60 s 3 hs (by decide) rfl, other_J B hp _ 60 _ k1 (by omega), other_J B hp _ 60 _ k2 (by omega), m1, m2, genT_in 3 hs, othT_in _ _, othT_in _ _, h6⟩
/-- what the law asks of the draws -/
theorem rels (B : Bs C) (V : Ways) {t u v : Ty} (m1 : Mt t u) (m2 : Mt u v) (it : In6 t) (iu : In6 u) (iv : In6 v) (h6 : t.ht ≤ 6) : ∃ r1 r2 r3 r4 r5 : PL,
    ((∀ l, CJ C 60 (.ref 78) [.dat t.dat, .dat u.dat, varAV C V] l (.dat (.list (pL r1))) l) ∧ (∀ l, CJ C 60 (.ref 128) [.dat t.dat, .dat u.dat, varAV C V] l (.dat (.list (pL (srt r1)))) l) ∧
    (∀ l, CJ C 60 (.ref 78) [.dat t.dat, .dat t.dat, varAV C V] l (.dat (.list [])) l) ∧ (∀ l, CJ C 60 (.ref 78) [.dat u.dat, .dat u.dat, varAV C V] l (.dat (.list [])) l) ∧
    (∀ l, CJ C 60 (.ref 78) [.dat u.dat, .dat v.dat, varAV C V] l (.dat (.list (pL r2))) l) ∧ (∀ l, CJ C 60 (.ref 133) [.dat (.list (pL (r1 ++ r2)))] l (.dat (.list (pL r3))) l) ∧
    (∀ l, CJ C 60 (.ref 78) [.dat t.dat, .dat v.dat, varAV C V] l (.dat (.list (pL r4))) l) ∧
    (∀ l, CJ C 60 (.ref 78) [.dat (.tuple [.str (Str.ofString "ref"), .int 7, .bool true, t.dat]), .dat (.tuple [.str (Str.ofString "ref"), .int 7, .bool true, u.dat]), varAV C V] l (.dat (.list (pL r5))) l) ∧
    (∀ l, CJ C 60 (.ref 128) [.dat (.tuple [.str (Str.ofString "ref"), .int 7, .bool true, t.dat]), .dat (.tuple [.str (Str.ofString "ref"), .int 7, .bool true, u.dat]), varAV C V] l (.dat (.list (pL (srt r5)))) l)) ∧
    r1.Nodup ∧ r1.length ≤ 30 ∧ r2.length ≤ 30 ∧ r4.length ≤ 30 ∧ r5.length ≤ 30 ∧ (∀ p ∈ r4, p ∈ r3) ∧ ∀ p ∈ srt r5, (p.2, p.1) ∈ srt r5 := by
  have s1 := m1.sm
  have s2 := m2.sm
  have s3 := s1.trans s2
  have hu : u.ht ≤ 6 := by rw [← s1.ht]; exact h6
  have cnt : ∀ {x : Ty}, x.ht ≤ 7 → x.cnt ≤ 49000 := fun {x} h => by
    have a := cnt_ht x
    have b : 2 ^ x.ht ≤ 2 ^ 7 := Nat.pow_le_pow_right (by decide) h
    omega
  have R : ∀ {x y : Ty}, Sm x y → x.ht ≤ 7 → ∀ l, CJ C 60 (.ref 78) [.dat x.dat, .dat y.dat, varAV C V] l (.dat (.list (pL (rel V x y)))) l := fun h k l => related_J B V h (cnt k) (by omega)
  have N : ∀ {x : Ty}, x.ht ≤ 7 → ∀ l, CJ C 60 (.ref 78) [.dat x.dat, .dat x.dat, varAV C V] l (.dat (.list [])) l := fun {x} k l => by
    have := R (Sm.refl x) k l
    rw [show rel V x x = [] from belowP_refl V x .co []] at this
    exact this
  have D : ∀ {x y : Ty}, Sm x y → x.ht ≤ 7 → (rel V x y).length ≤ 30 → ∀ l, CJ C 60 (.ref 128) [.dat x.dat, .dat y.dat, varAV C V] l (.dat (.list (pL (srt (rel V x y))))) l := fun {x y} h k q l => by
    have ey := h.ht
    have := due_J (l := l) B V h (Sm.refl y) 60 (by omega) (by omega) (by decide) (by rw [rel_due h]; omega)
    rw [rel_due h] at this
    exact this
  have n1 := rel_len (V := V) s1 it iu
  have n2 := rel_len (V := V) s2 iu iv
  have n3 := rel_len (V := V) s3 it iv
  have n5 := ins_len (V := V) s1 it iu
  have h7 : (ins t).ht ≤ 7 := by show t.ht + 1 ≤ 7; omega
  refine ⟨rel V t u, rel V u v, reach (rel V t u ++ rel V u v), rel V t v, rel V (ins t) (ins u), ⟨R s1 (by omega), D s1 (by omega) n1, N (by omega), N (by omega), R s2 (by omega), fun l => ?_, R s3 (by omega), R (Sm.ref s1) h7, D (Sm.ref s1) h7 n5⟩, rel_nodup s1, n1, n2, n3, n5, rel_chain s1 m2, fun p hp => ?_⟩
  · refine reached_J (n := 59) B (fun p hp => ?_) (by rw [List.length_append]; omega)
    rcases List.mem_append.mp hp with hp | hp
    · exact rel_ok s1 it iu p hp
    · exact rel_ok s2 iu iv p hp
  · exact mem_srt.mpr (ins_swap s1 p (mem_srt.mp hp))
end
end
section
section
variable {C : Cx} {l : List PyData}
theorem law_B (B : Bs C) {ns : List Int} (hns : ns.length ≤ 63) : ∃ (name qual : Str) (params : Arguments) (body : List Stmt) (scope : Scope) (dV kV doc pm cdv ct oc : Value) (an od : Option Addr) (osl : Array (Option Value)),
    (KK C.w).lookup 138 = some ⟨oc, od, .func (fnOf name qual params body scope dV kV doc pm an cdv ct), osl⟩ ∧ ∀ (L f : Addr) (cd : Value), BsJ C 60 (envOfC qual scope L f cd) [(Str.ofString "script", .dat (.list (ns.map .int)))] l body [] l (.ret (.dat (.bool true))) := by
  refine ⟨_, _, _, _, _, _, _, _, _, _, _, _, _, _, _, rfl, fun L f cd => ?_⟩
  have hlen : (ns.map PyData.int).length ≤ 1000000000 := by rw [List.length_map]; omega
  (with_reducible apply BsJ.cons (ρ₁ := [(Str.ofString "script", .dat (.list (ns.map .int)))]) (l₁ := l))
  · (with_reducible apply SJ.for_)
    · (with_reducible apply IterJ.range (m := max 1 (min ns.length 2)))
      · walk_at "nz"
      · (with_reducible apply EsJ.cons rfl)
        · (with_reducible apply EJ.call)
          · walk_at "nz"
          · walk_at "nz"
          · (with_reducible apply EsJ.cons rfl)
            · walk_at "nz"
            · (with_reducible apply EsJ.cons rfl)
              · (with_reducible apply EJ.call)
                · walk_at "nz"
                · walk_at "nz"
                · (with_reducible apply EsJ.cons rfl)
                  · (with_reducible apply EJ.call)
                    · walk_at "nz"
                    · walk_at "nz"
                    · walk_at "nz"
                    · exact CJ.lenL hlen
                    · rfl
                    · rfl
                    · rfl
                  · walk_at "nz"
                · exact CJ.min
                · rfl
                · rfl
                · rfl
              · walk_at "nz"
          · exact CJ.max
          · rfl
          · rfl
          · rfl
        · walk_at "nz"
      · rw [List.length_map]; split <;> split <;> omega
      · omega
      · intro _ _; rfl
      · rfl
      · rfl
    · refine Loop.fold (item := fun i : Nat => ivD (.int (i : Int))) (upd := fun (a : Unit) (_ : Nat) => a) (R := fun _ => [(Str.ofString "script", .dat (.list (ns.map .int)))])
        (ok := fun _ (zs : List Nat) => ∀ z ∈ zs, z < 2) (fun _ k zs hz => ⟨?_, fun z h => hz z (List.mem_cons_of_mem _ h)⟩) (List.range (max 1 (min ns.length 2))) () fun z h => by have := List.mem_range.mp h; omega
      have hk : k < 2 := hz k List.mem_cons_self
      refine ⟨_, AsJ.name ⟨rfl, .inl rfl⟩, ?_⟩
      (with_reducible apply BsJ.freshE (l₀ := srcL (poolS ns k)) (mk := fun b => .val (.ref b)))
      · exact ⟨rfl, .inr ⟨rfl, rfl, rfl⟩⟩
      · rfl
      · (with_reducible refine NewJ.pool (n := 58) (k := k) B hns hk ?_ ?_ ?_ ?_)
        · walk_at "nz"
        · walk_at "nz"
        · rfl
        · rfl
      · intro b
        have B' := B.at b
        have hp : (C.at b).p = some b := rfl
        have hs0 := poolS_ok ns k
        generalize poolS ns k = s0 at hs0 ⊢
        have hs1 := takeS_ok hs0 (t := 3) (by decide)
        have hs2 := takeS_ok hs1 (t := 3) (by decide)
        have hs3 := takeS_ok hs2 (t := 3) (by decide)
        have hs4 := takeS_ok hs3 (t := 3) (by decide)
        have hs5 := takeS_ok hs4 (t := 3) (by decide)
        have hs6 := takeS_ok hs5 (t := 3) (by decide)
        have w0 : CJ (C.at b) 60 _ _ _ _ _ := way_J (n := 58) B' hp hs0
        have w1 : CJ (C.at b) 60 _ _ _ _ _ := way_J (n := 58) B' hp hs1
        have w2 : CJ (C.at b) 60 _ _ _ _ _ := way_J (n := 58) B' hp hs2
        have w3 : CJ (C.at b) 60 _ _ _ _ _ := way_J (n := 58) B' hp hs3
        have w4 : CJ (C.at b) 60 _ _ _ _ _ := way_J (n := 58) B' hp hs4
        have w5 : CJ (C.at b) 60 _ _ _ _ _ := way_J (n := 58) B' hp hs5
        obtain ⟨t, u, v, q1, q2, q3, d1, d2, d3, m1, m2, it, iu, iv, h6⟩ := draws B' hp hs6
        generalize wayAt s0 = x0 at w0
        generalize wayAt (takeS s0 3) = x1 at w1
        generalize wayAt (takeS (takeS s0 3) 3) = x2 at w2
        generalize wayAt (takeS (takeS (takeS s0 3) 3) 3) = x3 at w3
        generalize wayAt (takeS (takeS (takeS (takeS s0 3) 3) 3) 3) = x4 at w4
        generalize wayAt (takeS (takeS (takeS (takeS (takeS s0 3) 3) 3) 3) 3) = x5 at w5
        generalize takeS (takeS (takeS (takeS (takeS (takeS s0 3) 3) 3) 3) 3) 3 = s6 at w5 d1 hs6
        generalize takeS (takeS (takeS (takeS (takeS s0 3) 3) 3) 3) 3 = s5 at w4 w5 hs5
        generalize takeS (takeS (takeS (takeS s0 3) 3) 3) 3 = s4 at w3 w4 hs4
        generalize takeS (takeS (takeS s0 3) 3) 3 = s3 at w2 w3 hs3
        generalize takeS (takeS s0 3) 3 = s2 at w1 w2 hs2
        generalize takeS s0 3 = s1 at w0 w1 hs1
        clear hs1 hs2 hs3 hs4 hs5 hs6 hs0
        obtain ⟨V, hV0, hV1⟩ : ∃ V : Ways, V false = (x0, x1, x2) ∧ V true = (x3, x4, x5) := ⟨fun q => if q then (x3, x4, x5) else (x0, x1, x2), rfl, rfl⟩
        obtain ⟨r1, r2, r3, r4, r5, ⟨j1, jd1, jt, ju, j2, j3, j4, j5, jd5⟩, nd, n1, n2, n4, n5, hr, hsw⟩ := rels B' V m1 m2 it iu iv h6
        clear m1 m2 it iu iv h6
        refine ⟨srcL q3, ?_⟩
        (with_reducible apply BsJ.varied (V := V) (l₁ := srcL s3) (l₂ := srcL s6))
        · exact ⟨rfl, .inl rfl⟩
        · exact ⟨rfl, .inl rfl⟩
        · rfl
        · rfl
        · decide
        · decide
        · decide
        · rfl
        · rfl
        · intro ρ
          refine IterJ.list (ds := [.str (Ty.pS false), .str (Ty.pS true)]) ?_
          walk_at "nz"
        · intro _; rfl
        · intro vd
          rw [show wayL (V false) = [x0.d, x1.d, x2.d] by rw [hV0]; rfl]
          (with_reducible apply EJ.call)
          · walk_at "nz"
          · walk_at "nz"
          · (with_reducible apply EsJ.cons rfl)
            · (with_reducible apply EJ.comp1 (outs := [x0.d, x1.d, x2.d]) (l₂ := srcL s3))
              · walk_at "nzcomp"
              · intro _; rfl
              · (with_reducible apply IterJ.range (m := 3))
                · walk_at "nz"
                · walk_at "nz"
                · rfl
                · decide
                · intro _ _; rfl
                · rfl
                · rfl
              · intro Cf
                refine CLoop.cons (out := [x0.d]) (l₁ := srcL s1) (CStep.name1 ⟨rfl, .inl rfl⟩ rfl ?_) (CLoop.cons (out := [x1.d]) (l₁ := srcL s2) (CStep.name1 ⟨rfl, .inl rfl⟩ rfl ?_) (CLoop.cons (out := [x2.d]) (l₁ := srcL s3) (CStep.name1 ⟨rfl, .inl rfl⟩ rfl ?_) CLoop.nil))
                · walk_at "nz"
                · walk_at "nz"
                · walk_at "nz"
              · exact Nat.le_of_ble_eq_true rfl
            · exact EsJ.nil
          · exact CJ.tupL (Nat.le_of_ble_eq_true rfl)
          · rfl
          · rfl
          · rfl
        · intro vd
          rw [show wayL (V true) = [x3.d, x4.d, x5.d] by rw [hV1]; rfl]
          (with_reducible apply EJ.call)
          · walk_at "nz"
          · walk_at "nz"
          · (with_reducible apply EsJ.cons rfl)
            · (with_reducible apply EJ.comp1 (outs := [x3.d, x4.d, x5.d]) (l₂ := srcL s6))
              · walk_at "nzcomp"
              · intro _; rfl
              · (with_reducible apply IterJ.range (m := 3))
                · walk_at "nz"
                · walk_at "nz"
                · rfl
                · decide
                · intro _ _; rfl
                · rfl
                · rfl
              · intro Cf
                refine CLoop.cons (out := [x3.d]) (l₁ := srcL s4) (CStep.name1 ⟨rfl, .inl rfl⟩ rfl ?_) (CLoop.cons (out := [x4.d]) (l₁ := srcL s5) (CStep.name1 ⟨rfl, .inl rfl⟩ rfl ?_) (CLoop.cons (out := [x5.d]) (l₁ := srcL s6) (CStep.name1 ⟨rfl, .inl rfl⟩ rfl ?_) CLoop.nil))
                · walk_at "nz"
                · walk_at "nz"
                · walk_at "nz"
              · exact Nat.le_of_ble_eq_true rfl
            · exact EsJ.nil
          · exact CJ.tupL (Nat.le_of_ble_eq_true rfl)
          · rfl
          · rfl
          · rfl
        · rfl
        · clear w0 w1 w2 w3 w4 w5 hV0 hV1
          walk_at "nza"
          walk_at "nza"
          walk_at "nza"
          walk_at "nza"
          (with_reducible apply BsJ.cons)
          · (with_reducible apply SJ.ite_f)
            · refine BJ.or (c := false) (l₁ := srcL q3) (l₂ := srcL q3) ?_ (fun _ => BJ.or1 (c := false) ?_) (fun e => by cases e)
              · (with_reducible apply BJ.to)
                · (with_reducible apply BJ.cmp)
                  · (with_reducible apply EJ.call)
                    · walk_at "nz"
                    · walk_at "nz"
                    · (with_reducible apply EsJ.cons rfl)
                      · (with_reducible apply EJ.call)
                        · walk_at "nz"
                        · walk_at "nz"
                        · (with_reducible apply EsJ.cons rfl)
                          · (with_reducible apply EJ.comp1N (outs := r1.map rowT) (l₂ := srcL q3))
                            · walk_at "nzcomp"
                            · intro _; rfl
                            · (with_reducible apply IterJ.list (ds := pL r1))
                              walk_at "nz"
                            · intro Cf
                              refine CLoop.mapP fun p hp => ?_
                              apply CStep.name1
                              · exact ⟨rfl, .inl rfl⟩
                              · rfl
                              · walk_at "nz"
                            · rw [List.length_map]; omega
                          · exact EsJ.nil
                        · exact CJ.dictP B' (by omega)
                        · rfl
                        · rfl
                        · rfl
                      · exact EsJ.nil
                    · rw [uniq_self nd]; exact CJ.lenD (by omega)
                    · rfl
                    · rfl
                    · rfl
                  · (with_reducible apply EJ.call)
                    · walk_at "nz"
                    · walk_at "nz"
                    · walk_at "nz"
                    · exact CJ.lenL (by rw [List.length_map]; omega)
                    · rfl
                    · rfl
                    · rfl
                  · exact OJ2.nei
                  · rfl
                · rw [List.length_map]; simp
              · (with_reducible apply BJ.cmp)
                · (with_reducible apply EJ.call)
                  · walk_at "nz"
                  · walk_at "nz"
                  · walk_at "nz"
                  · exact CJ.sortedP (by omega)
                  · rfl
                  · rfl
                  · rfl
                · walk_at "nz"
                · exact ned_pL
                · rfl
            · exact BsJ.nil
          (with_reducible apply BsJ.cons)
          · (with_reducible apply SJ.ite_f)
            · refine BJ.or (c := false) (l₁ := srcL q3) (l₂ := srcL q3) ?_ (fun _ => BJ.or1 (c := false) ?_) (fun e => by cases e)
              · (with_reducible apply BJ.cmp)
                · walk_at "nz"
                · walk_at "nz"
                · exact ned_nil
                · rfl
              · (with_reducible apply BJ.cmp)
                · walk_at "nz"
                · walk_at "nz"
                · exact ned_nil
                · rfl
            · exact BsJ.nil
          (with_reducible apply BsJ.cons)
          · (with_reducible apply SJ.assign)
            · (with_reducible apply EJ.call)
              · walk_at "nz"
              · walk_at "nz"
              · (with_reducible apply EsJ.cons rfl)
                · (with_reducible apply EJ.to (a' := .dat (.list (pL (r1 ++ r2)))) (l₂ := srcL q3))
                  · (with_reducible apply EJ.bin)
                    · walk_at "nz"
                    · walk_at "nz"
                    · (with_reducible apply OJ2.catL)
                      simp only [List.length_map]; omega
                  · rw [show pL (r1 ++ r2) = pL r1 ++ pL r2 from List.map_append]
                  · rfl
                · exact EsJ.nil
              · exact j3 _
              · rfl
              · rfl
              · rfl
            · exact ⟨rfl, .inr ⟨rfl, rfl, rfl⟩⟩
            · rfl
          (with_reducible apply BsJ.cons)
          · (with_reducible apply SJ.ite_f)
            · (with_reducible apply BJ.cmp)
              · (with_reducible apply EJ.to (a := .dat (.list (r4.flatMap fun _ => []))) (a' := .dat (.list [])) (l₁ := srcL q3) (l₂ := srcL q3))
                · (with_reducible apply EJ.comp1)
                  · walk_at "nzcomp"
                  · intro _; rfl
                  · (with_reducible apply IterJ.list (ds := pL r4))
                    walk_at "nz"
                  · intro Cf
                    refine CLoop.eachP fun p hp => ?_
                    refine CStep.test1 (ok := false) (d := pD p) (l₁ := srcL q3) ⟨rfl, .inl rfl⟩ rfl ?_ (fun e => by cases e) (fun _ => rfl)
                    (with_reducible apply BJ.to)
                    · (with_reducible apply BJ.cmp)
                      · walk_at "nz"
                      · walk_at "nz"
                      · exact OJ2.ninl (lay_pL r3) (lay_pD p) (depth_pD p)
                      · rfl
                    · rw [any_pL, decide_eq_true (hr p hp)]; rfl
                  · rw [show (r4.flatMap fun _ => ([] : List PyData)) = [] by simp]; exact Nat.zero_le _
                · simp
                · rfl
              · walk_at "nz"
              · exact ned_nil
              · rfl
            · exact BsJ.nil
          walk_at "nza"
          walk_at "nza"
          walk_at "nza"
          (with_reducible apply BsJ.cons)
          · (with_reducible apply SJ.ite_f)
            · refine BJ.or (c := false) (l₁ := srcL q3) (l₂ := srcL q3) ?_ (fun _ => BJ.or1 (c := false) ?_) (fun e => by cases e)
              · (with_reducible apply BJ.cmp)
                · (with_reducible apply EJ.call)
                  · walk_at "nz"
                  · walk_at "nz"
                  · walk_at "nz"
                  · exact CJ.sortedP (by omega)
                  · rfl
                  · rfl
                  · rfl
                · walk_at "nz"
                · exact ned_pL
                · rfl
              · (with_reducible apply BJ.cmp)
                · (with_reducible apply EJ.to (a := .dat (.list ((srt r5).flatMap fun _ => []))) (a' := .dat (.list [])) (l₁ := srcL q3) (l₂ := srcL q3))
                  · (with_reducible apply EJ.comp1)
                    · walk_at "nzcomp"
                    · intro _; rfl
                    · (with_reducible apply IterJ.list (ds := pL (srt r5)))
                      walk_at "nz"
                    · intro Cf
                      refine CLoop.eachP fun p hp => ?_
                      refine CStep.test1 (ok := false) (d := pD p) (l₁ := srcL q3) ⟨rfl, .inl rfl⟩ rfl ?_ (fun e => by cases e) (fun _ => rfl)
                      (with_reducible apply BJ.to)
                      · (with_reducible apply BJ.cmp)
                        · walk_at "nz"
                        · walk_at "nz"
                        · exact OJ2.ninl (d := pD (p.2, p.1)) (lay_pL (srt r5)) (lay_pD (p.2, p.1)) (depth_pD (p.2, p.1))
                        · rfl
                      · rw [any_pL, decide_eq_true (hsw p hp)]; rfl
                    · rw [show ((srt r5).flatMap fun _ => ([] : List PyData)) = [] by simp]; exact Nat.zero_le _
                  · simp
                  · rfl
                · walk_at "nz"
                · exact ned_nil
                · rfl
            · exact BsJ.nil
          exact BsJ.nil.sub fun x a e => SubL.get (by exact ⟨rfl, trivial⟩) e
    · intro _; rfl
  · walk_at "nzx"
    · rfl
    · rfl
end
end
section
section
theorem law_B' {C : Cx} {l : List PyData} (B : Bs C) {ns : List Int} (hns : ns.length ≤ 63) {name qual : Str} {params : Arguments} {body : List Stmt} {scope : Scope} {dV kV doc pm cdv ct oc : Value} {an od : Option Addr} {osl : Array (Option Value)}
    (ho : (KK C.w).lookup 138 = some ⟨oc, od, .func (fnOf name qual params body scope dV kV doc pm an cdv ct), osl⟩) (L f : Addr) (cd : Value) : BsJ C 60 (envOfC qual scope L f cd) [(Str.ofString "script", .dat (.list (ns.map .int)))] l body [] l (.ret (.dat (.bool true))) := by
  obtain ⟨_, _, _, _, _, _, _, _, _, _, _, _, _, _, _, e, h⟩ := law_B (l := l) B hns
  rw [ho] at e
  cases e
  exact h L f cd
theorem room_top (env : Env) : Room 60 (callerA.deeper env) := by
  have h : Room 61 callerA := ⟨rfl, by decide, by decide⟩
  exact h.deeper env
theorem law_top {prog : Program} {w : World} {ns : List Int} (hns : ns.length ≤ 63) {f a : Addr} {o : Obj} {fd : FuncData} {name qual : Str} {params params' : Arguments} {body : List Stmt} {scope : Scope} {dV kV doc pm cdv ct dV' kV' doc' pm' cdv' ct' oc : Value} {an an' od : Option Addr} {osl : Array (Option Value)}
    {s : Shared} {as : List Addr} {R : Result → Shared → Prop} (KX : (KK w).In s.heap) (T : ∃ pr loose mg mb, TopRead pr loose mg mb s.heap)
    (ho : s.heap.get? f = some o) (hd : o.data = .func fd) (hcd : s.heap.CodeRec cdv qual) (hfd : fd = fnOf name qual params body scope dV kV doc pm an cdv ct)
    (hb : BindsTo s fd ⟨[.ref a], []⟩ [(Str.ofString "script", .ref a)])
    (hK : (KK w).lookup 138 = some ⟨oc, od, .func (fnOf name qual params' body scope dV' kV' doc' pm' an' cdv' ct'), osl⟩)
    (hk : scope.kind = .function) (hco : scope.isCoroutine = false) (hgen : scope.isGenerator = false) (hx : scope.names.lookup (Str.ofString "script") = some .local)
    (r : Reads s.heap (.ref a) (.list (ns.map .int)) as)
    (k : ∀ h' tk L m, Fr s.heap L h' m → R (.ok (.ret (.bool true))) { s with heap := h', toks := tk }) :
    codeAny (model prog w) callerA (.call (.ref f) ⟨[.ref a], []⟩) R s := by
  subst hfd
  have B : Bs ⟨prog, w, s.heap, none⟩ := ⟨KX, T⟩
  obtain ⟨pr, loose, mg, mb, T⟩ := T
  refine codeAny_call_function (by decide) ho hd hco hgen rfl hcd (hb _ _ _ _ ?_)
  refine wpAny_newFunctionEnv_cells hk (fun x hx' => ?_) fun env' he s' X => ?_
  · rw [List.mem_singleton.mp hx']; exact .inl hx
  subst he
  refine ⟨T.nolimit.keeps X.toInCall.keep, codeAny_func ?_⟩
  obtain ⟨h₁, tk, rfl, hk₁⟩ := X.done
  have hnew : ∀ a, s.heap.objs.size ≤ a → s.heap.get? a = none := fun a ha => fresh_none ha
  have hF : FR s.heap none (envOfC qual scope s.heap.objs.size f cdv) [(Str.ofString "script", .dat (.list (ns.map .int)))] h₁ := by
    refine ⟨⟨_, X.toInCall.ns, fun x b e kk => ?_⟩, fun x b e kk => ?_, hnew _ (Nat.le_refl _), nofun, fun x c e => ?_, fun x y c e e' => ?_⟩
    · rw [List.lookup_cons] at e
      cases q : x == Str.ofString "script" with
      | true =>
        rw [q] at e
        cases e
        rw [beq_iff_eq.mp q]
        refine ⟨.ref a, bindL_get (by simp) (by simp) ?_, _, r⟩
        exact hx
      | false => rw [q] at e; cases e
    · rw [List.lookup_cons] at e
      cases q : x == Str.ofString "script" with
      | true =>
        rw [beq_iff_eq.mp q] at kk
        exact absurd hx kk
      | false => rw [q] at e; cases e
    · have hab := X.above x c (mem_of_lookup e)
      have hab' : s.heap.objs.size < c := hab
      obtain ⟨o, ho', hd'⟩ := X.cell x c e
      exact ⟨hnew c (Nat.le_of_lt hab'), nofun, Nat.ne_of_gt hab', o, _, ho', hd'⟩
    · exact name_of_addr X.apart (mem_of_lookup e) (mem_of_lookup e')
  refine (law_B' (C := ⟨prog, w, s.heap, none⟩) (l := []) B hns hK s.heap.objs.size f cdv).run _ { s with heap := h₁, toks := tk } s.heap _ _ (room_top _) Le.rfl hk₁ hF nofun fun fl g' h' tk' x F' S' hf => ?_
  cases fl with
  | ret v =>
    obtain rfl := Rd.bool_inv hf
    obtain ⟨m, hn, _⟩ := F'.ns
    exact k h' tk' _ m ⟨hn, fun b o e => x.gh b o (x.gg b o e), Nat.le_refl _⟩
  | _ => exact hf.elim
end
end
end Mine
theorem PySem.Challenge.cw_nz0123_01_holds : PySem.Challenge.rw_nz0123_01.Holds := by
  refine Mine.hd ?_
  k_fill
  intro w s₀ s₁ mg mb G Y fa o pm cd doc dV kV ho hd hcd hD hmg hg args vals as hpre hlay hrd hwl hlo
  have KX := kIn_of Y
  refine Ground.open G ?_
  intro T B D TE TW
  clear B D TE TW
  try (obtain ⟨_, _, he, B0⟩ := based_of_top T rfl hmg ho hd; have he' : cd = _ := he; subst he'; clear he)
  clear hmg
  wrow_args hpre hlay hrd hwl hlo
  all_goals (
    first | refine callC_kw (enter_call ?_) | refine enter_call ?_ | refine callC_kw (enter_callW ?_) | refine enter_callW ?_ | w_how
    w_top on
    refine codeAny_mono ?_ (fun _ _ g => GoodW.toG g))
  rename_i r0 hI hr hc hc'
  have he := Dflts.none hD rfl; subst he; have he := Dflts.noKw hD; subst he
  refine Mine.law_top (by omega) KX ⟨_, _, _, _, topRead_of T⟩ ho (fd_plain hd) hcd rfl (BindsTo.of_eq rfl) rfl rfl rfl rfl rfl r0 fun h' tk L m F => ?_
  show GoodW _ _ _ _ _ (.ok (.ret (.bool _))) _
  refine goodW_bool F ?_ (raisesW_false ?_) ?_
  · exact hg
  · wrow_none_raised
  · wrow_post
