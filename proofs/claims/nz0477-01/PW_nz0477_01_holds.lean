import PyProof.Rows.All
import Wide.All
import OpenK.AllK
import Wide.FinOn
import PySem.Challenge.RW_nz0477_01
set_option Elab.async false
set_option linter.unusedVariables false
namespace Mine
section
open PySem PySem.W PyProof.Rows
def keepS : Stmt → Bool
  | .Assign .. => false
  | _ => true
def viewP : Program := { Challenge.pw_nz0477_01 with main := { Challenge.pw_nz0477_01.main with body := Challenge.pw_nz0477_01.main.body.filter keepS } }
abbrev RR : RowW := Challenge.rw_nz0477_01.row.toRowW
local macro_rules | `(tactic| o_head $H) => `(tactic| (
  refine holds_open (q := viewP) (loose := ([] : List Str)) (Xt := fun s => xlAt viewP ([] : List (Str × WData)) s && recOk (RowW.records RR) s) (XP := XL viewP ([] : List (Str × WData))) (Yf := Hook.obs $H) (Ya := Hook.val $H) (YP := Hook.says $H) (N := 3292) ?hl (Hook.of $H) (Hook.keeps $H) (fun s e => xl_of s (Bool.and_eq_true_iff.mp e).1) XL.keeps (by rfl) (by rfl) (by rfl) (fun s e => recFacts_of (Bool.and_eq_true_iff.mp e).2) (by rfl) (by assumption) (by decide +kernel) ⟨rfl, rfl, rfl, rfl, rfl, by decide +kernel⟩ ?hw ?hc
  (case hl => (intro w; unfold openEnds topFrom; rw [PySem.W.Fast.te14364793385576792824, PySem.W.Fast.te14082659384304107361, PySem.W.Fast.te4187177175401517315]; kernel_rfl))))
set_option maxRecDepth 100000 in
set_option maxHeartbeats 8000000 in
open_top hd for Challenge.rw_nz0477_01
end
set_option maxRecDepth 100000
open PySem PySem.W PySem.Calls PyProof.Rows
open PySem.SeqAt (EqAt RcAt)
section
set_option maxRecDepth 100000
open PySem PySem.W PySem.Calls PyProof.Rows
/-! ## heaps: what stays -/
def Sub (g h : Heap) : Prop := ∀ b o, g.get? b = some o → h.get? b = some o
theorem Sub.refl {g : Heap} : Sub g g := fun _ _ e => e
theorem Sub.trans {g h k : Heap} (a : Sub g h) (b : Sub h k) : Sub g k := fun x o e => b x o (a x o e)

theorem get_none_of {h : Heap} {a : Addr} (ha : h.objs.size ≤ a) : h.get? a = none := by
  cases e : h.get? a with
  | none => rfl
  | some o => exact absurd (Heap.lt_size e) (Nat.not_lt.mpr ha)

/-- from (g, h) to (g', h'): g is the frozen part of h; `wr` may change -/
structure Grow (wr : Addr → Prop) (g h g' h' : Heap) : Prop where
  le : Sub g g'
  sub : Sub g' h'
  new : ∀ b o, g'.get? b = some o → g.get? b = some o ∨ h.get? b = none
  keep : ∀ b o, ¬ wr b → h.get? b = some o → h'.get? b = some o
  dom : ∀ b, h'.get? b = none → h.get? b = none

def NoW : Addr → Prop := fun _ => False
def OnlyW (r : Addr) : Addr → Prop := fun b => b = r

theorem Grow.mk0 {g h g' h' : Heap} (le : Sub g g') (sub : Sub g' h') (new : ∀ b o, g'.get? b = some o → g.get? b = some o ∨ h.get? b = none) (keep : Sub h h') : Grow NoW g h g' h' :=
  ⟨le, sub, new, fun b o _ e => keep b o e, fun b e => by
    cases q : h.get? b with
    | none => rfl
    | some o => rw [keep b o q] at e; cases e⟩
theorem Grow.keep0 {g h g' h' : Heap} (x : Grow NoW g h g' h') : Sub h h' := fun b o e => x.keep b o (fun f => f) e
theorem Grow.refl {wr : Addr → Prop} {g h : Heap} (s : Sub g h) : Grow wr g h g h := ⟨Sub.refl, s, fun _ _ e => .inl e, fun _ _ _ e => e, fun _ e => e⟩
theorem Grow.trans {wr : Addr → Prop} {g h g' h' g'' h'' : Heap} (a : Grow wr g h g' h') (b : Grow wr g' h' g'' h'') : Grow wr g h g'' h'' where
  le := a.le.trans b.le
  sub := b.sub
  new := fun x o e => (b.new x o e).elim (fun e => a.new x o e) fun e => .inr (a.dom x e)
  keep := fun x o n e => b.keep x o n (a.keep x o n e)
  dom := fun x e => a.dom x (b.dom x e)
theorem Grow.wide {wr wr' : Addr → Prop} {g h g' h' : Heap} (a : Grow wr g h g' h') (hw : ∀ b, wr b → wr' b) : Grow wr' g h g' h' :=
  ⟨a.le, a.sub, a.new, fun b o n e => a.keep b o (fun q => n (hw b q)) e, a.dom⟩
theorem Grow.of0 {wr : Addr → Prop} {g h g' h' : Heap} (a : Grow NoW g h g' h') : Grow wr g h g' h' := a.wide fun _ f => f.elim
/-- what is not frozen and is there stays unfrozen -/
theorem Grow.out {wr : Addr → Prop} {g h g' h' : Heap} (a : Grow wr g h g' h') {b : Addr} {o : Obj} (hg : g.get? b = none) (hh : h.get? b = some o) : g'.get? b = none := by
  cases e : g'.get? b with
  | none => rfl
  | some o' =>
    rcases a.new b o' e with e | e
    · rw [hg] at e; cases e
    · rw [hh] at e; cases e

/-! ## lists -/
def Lst (g : Heap) (a : Addr) (xs : List Value) : Prop := ∃ n, g.get? a = some { cls := .type "list", data := .seq xs.toArray n }
theorem Lst.up {g h : Heap} {a : Addr} {xs : List Value} (x : Lst g a xs) (s : Sub g h) : Lst h a xs := let ⟨n, e⟩ := x; ⟨n, s _ _ e⟩
theorem Lst.is {g : Heap} {a : Addr} {xs : List Value} (x : Lst g a xs) : g.IsList a xs.toArray := let ⟨n, e⟩ := x; ⟨_, e, rfl, n, rfl⟩
theorem Lst.plain {g : Heap} {a : Addr} {xs : List Value} (x : Lst g a xs) : g.PlainList a xs.toArray := x

/-! ## freezing: the part of a heap -/
open Classical in
noncomputable def only (h : Heap) (P : Addr → Prop) : Heap := ⟨(h.objs.mapIdx fun i o => if P i then o else { cls := .none, data := .freed }), h.life⟩
theorem only_get {h : Heap} {P : Addr → Prop} {b : Addr} {o : Obj} : (only h P).get? b = some o ↔ P b ∧ h.get? b = some o := by
  rw [Heap.get?_some_iff, Heap.get?_some_iff]
  unfold only
  simp only [Array.getElem?_mapIdx]
  cases e : h.objs[b]? with
  | none => simp
  | some x =>
    by_cases hp : P b
    · simp [hp]
    · simp only [hp, Option.map_some, if_false, Option.some.injEq, false_and, iff_false, not_and, Bool.not_eq_false]
      rintro rfl; rfl

/-- g and one more object -/
noncomputable def plus (g h : Heap) (P : Addr → Prop) : Heap := only h fun b => (g.get? b).isSome ∨ P b
theorem plus_le {g h : Heap} {P : Addr → Prop} (s : Sub g h) : Sub g (plus g h P) := fun b o e => only_get.mpr ⟨.inl (by rw [e]; rfl), s b o e⟩
theorem plus_sub {g h : Heap} {P : Addr → Prop} : Sub (plus g h P) h := fun _ _ e => (only_get.mp e).2
theorem plus_at {g h : Heap} {P : Addr → Prop} {b : Addr} {o : Obj} (p : P b) (e : h.get? b = some o) : (plus g h P).get? b = some o := only_get.mpr ⟨.inr p, e⟩
theorem plus_new {g h : Heap} {P : Addr → Prop} (s : Sub g h) : ∀ b o, (plus g h P).get? b = some o → g.get? b = some o ∨ P b := fun b o e => by
  obtain ⟨q, e⟩ := only_get.mp e
  rcases q with q | q
  · left
    obtain ⟨o', e'⟩ := Option.isSome_iff_exists.mp q
    rw [s b o' e'] at e; cases e; exact e'
  · exact .inr q
/-- freeze some of what is there (of the newly made) -/
theorem Grow.freeze {wr : Addr → Prop} {g h g' h' : Heap} (a : Grow wr g h g' h') (P : Addr → Prop) (hP : ∀ b, P b → h.get? b = none) : Grow wr g h (plus g' h' P) h' where
  le := a.le.trans (plus_le a.sub)
  sub := plus_sub
  new := fun b o e => (plus_new a.sub b o e).elim (a.new b o) fun p => .inr (hP b p)
  keep := a.keep
  dom := a.dom

/-! ## the world: what the top laid -/
noncomputable abbrev KP (w : PySem.World) : Frag := hd.heap_39 w.params
structure Wd (w : PySem.World) (h : Heap) : Prop where
  K : (KP w).In h
  T : ∃ mg mb, TopRead viewP (looseW viewP []) mg mb h
theorem Wd.mono {w : PySem.World} {g h : Heap} (x : Wd w g) (s : Sub g h) : Wd w h := ⟨x.K.keeps s, let ⟨mg, mb, T⟩ := x.T; ⟨mg, mb, T.keeps s⟩⟩
theorem Wd.nolimit {w : PySem.World} {h : Heap} (x : Wd w h) : h.NoLimit := let ⟨_, _, T⟩ := x.T; T.nolimit

/-- room for n calls more -/
structure Room (A : Around) (n : Nat) : Prop where
  hd : A.handled = none
  dep : A.depth + n < recursionLimit
  un : A.units + 10 * n < cLine
theorem Room.room {A : Around} {n : Nat} (r : Room A n) : A.depth < recursionLimit := Nat.lt_of_le_of_lt (Nat.le_add_right _ _) r.dep
theorem Room.units {A : Around} {n : Nat} (r : Room A n) : A.units < cLine := Nat.lt_of_le_of_lt (Nat.le_add_right _ _) r.un
theorem Room.deeper {A : Around} {n : Nat} (r : Room A (n + 1)) (env : Env) : Room (A.deeper env) n := ⟨r.hd, by show A.depth + 1 + n < _; have := r.dep; omega, by show A.units + 3 + 10 * n < _; have := r.un; omega⟩
theorem Room.less {A : Around} {n k : Nat} (r : Room A n) (h : k ≤ n) : Room A k := ⟨r.hd, by have := r.dep; omega, by have := r.un; omega⟩
theorem Room.in1 {A : Around} {n : Nat} (r : Room A (n + 1)) : Room A.in1 n := ⟨r.hd, by have := r.dep; simp; omega, by have := r.un; simp; omega⟩
theorem Room.make {A : Around} {n : Nat} (r : Room A (n + 1)) (C : Addr) (rest : List Value) (kw : List (Str × Value)) : Room (A.under (.builtin "type.__call__" ⟨.ref C :: rest, kw⟩)) n := by
  have hf : (Code.builtin "type.__call__" ⟨.ref C :: rest, kw⟩).frames = 0 := by rfl
  have hw : (Code.builtin "type.__call__" ⟨.ref C :: rest, kw⟩).weight = 1 := by
    unfold Code.weight; rw [hf]; rfl
  have hu : (Code.builtin "type.__call__" ⟨.ref C :: rest, kw⟩).cUnits = 1 := by rfl
  refine ⟨r.hd, ?_, ?_⟩
  · show A.depth + Code.weight _ + n < _
    rw [hw]; have := r.dep; omega
  · show A.units + Code.cUnits _ + 10 * n < _
    rw [hu]; have := r.un; omega

/-! ## the names of a frame -/
structure Vars (env : Env) (h : Heap) (m : Str → Option Value) : Prop where
  kind : env.scope.kind = .function
  ns : ∃ ml, h.Ns env.locals ml ∧ ∀ x, env.kindOf x = some .local → ml x = m x
  cell : ∀ x c, env.cells.lookup x = some c → h.IsCell c (m x)
  apart : env.cells.Pairwise fun x y => x.2 ≠ y.2
  above : ∀ n c, (n, c) ∈ env.cells → env.locals ≠ c
  glob : env.globals = mainGlobals
  blt : env.builtins = builtinsNs
  ck : ∀ x c, env.cells.lookup x = some c → env.kindOf x ≠ some .local

/-- the addresses that a frame writes -/
def Own (env : Env) (b : Addr) : Prop := b = env.locals ∨ ∃ x, env.cells.lookup x = some b

theorem Vars.mono {env : Env} {h h' : Heap} {m : Str → Option Value} (V : Vars env h m) (k : ∀ b o, Own env b → h.get? b = some o → h'.get? b = some o) : Vars env h' m where
  kind := V.kind
  ns := let ⟨ml, n, e⟩ := V.ns; ⟨ml, n.at' (fun o q => k _ o (.inl rfl) q), e⟩
  cell := fun x c e => let ⟨o, a, b⟩ := V.cell x c e; ⟨o, k c o (.inr ⟨x, e⟩) a, b⟩
  apart := V.apart
  above := V.above
  glob := V.glob
  blt := V.blt
  ck := V.ck
theorem Vars.up {env : Env} {h h' : Heap} {m : Str → Option Value} (V : Vars env h m) (k : Sub h h') : Vars env h' m := V.mono fun b o _ e => k b o e
theorem Vars.there {env : Env} {h : Heap} {m : Str → Option Value} (V : Vars env h m) {b : Addr} (o : Own env b) : ∃ ob, h.get? b = some ob := by
  rcases o with rfl | ⟨x, e⟩
  · obtain ⟨ml, ⟨o, _, _, e, _⟩, _⟩ := V.ns; exact ⟨o, e⟩
  · obtain ⟨o, e, _⟩ := V.cell x b e; exact ⟨o, e⟩

def upd (m : Str → Option Value) (x : Str) (v : Value) : Str → Option Value := fun y => if y = x then some v else m y
theorem upd_self {m : Str → Option Value} {x : Str} {v : Value} : upd m x v x = some v := if_pos rfl
theorem upd_ne {m : Str → Option Value} {x y : Str} {v : Value} (h : y ≠ x) : upd m x v y = m y := if_neg h

section
variable {M : Model} {A : Around} {E : Value → Shared → Prop} {env : Env} {h : Heap} {gs : Array GenState} {dr : Drawn} {t : Nat} {os : OsState} {m : Str → Option Value}

def isLocal (env : Env) (x : Str) : Bool := (env.kindOf x == some .local) && !(x == ("__debug__" : Str))
def isCellN (env : Env) (x : Str) : Bool := (env.kindOf x == some .cell) && (env.cells.lookup x).isSome && !(x == ("__debug__" : Str))

theorem ev_loc {x : Str} {pos : Pos} {v : Value} {Q : Value → Shared → Prop} (V : Vars env h m) (hx : isLocal env x = true) (hm : m x = some v) (q : Q v ⟨h, gs, dr, t, os⟩) :
    wpAny M A (eval (.Name x pos) env) Q E ⟨h, gs, dr, t, os⟩ := by
  simp only [isLocal, Bool.and_eq_true, beq_iff_eq, Bool.not_eq_true'] at hx
  obtain ⟨ml, n, e⟩ := V.ns
  exact wpAny_Name (wpAny_loadName_local V.kind hx.1 n ((e x hx.1).trans hm) q) hx.2
theorem ev_cell {x : Str} {pos : Pos} {v : Value} {Q : Value → Shared → Prop} (V : Vars env h m) (hx : isCellN env x = true) (hm : m x = some v) (q : Q v ⟨h, gs, dr, t, os⟩) :
    wpAny M A (eval (.Name x pos) env) Q E ⟨h, gs, dr, t, os⟩ := by
  simp only [isCellN, Bool.and_eq_true, beq_iff_eq, Bool.not_eq_true'] at hx
  obtain ⟨c, hc⟩ := Option.isSome_iff_exists.mp hx.1.2
  exact wpAny_Name (wpAny_loadName_cell V.kind hx.1.1 hc (hm ▸ V.cell x c hc) q) hx.2

theorem ne_cells {env : Env} (ap : env.cells.Pairwise fun x y => x.2 ≠ y.2) {x y : Str} {c d : Addr} (hx : env.cells.lookup x = some c) (hy : env.cells.lookup y = some d) (n : x ≠ y) : c ≠ d := fun e => by
  subst e; exact n (name_of_addr ap (mem_of_lookup hx) (mem_of_lookup hy))

theorem store_loc {x : Str} {v : Value} {Q : Unit → Shared → Prop} (V : Vars env h m) (hx : isLocal env x = true)
    (q : ∀ h' t' a, Vars env h' (upd m x v) → (a = env.locals ∨ env.cells.lookup x = some a) → Heap.SameBut a h h' → Q () ⟨h', gs, dr, t', os⟩) : wpAny M A (storeName env x v) Q E ⟨h, gs, dr, t, os⟩ := by
  simp only [isLocal, Bool.and_eq_true, beq_iff_eq, Bool.not_eq_true'] at hx
  obtain ⟨ml, n, e⟩ := V.ns
  refine wpAny_storeName_local hx.1 n (fun h' hn hs => q h' _ _ ⟨V.kind, ⟨_, hn, fun y hy => ?_⟩, fun y c hc => ?_, V.apart, V.above, V.glob, V.blt, V.ck⟩ (.inl rfl) hs) (by rw [V.kind]; rfl)
  · by_cases hyx : y = x
    · subst hyx; rw [if_pos rfl, upd_self]
    · rw [if_neg hyx, upd_ne hyx, e y hy]
  · have hyx : y ≠ x := fun q => V.ck y c hc (q ▸ hx.1)
    rw [upd_ne hyx]
    exact (V.cell y c hc).sameBut hs (Ne.symm (V.above y c (mem_of_lookup hc)))

theorem store_cell {x : Str} {v : Value} {Q : Unit → Shared → Prop} (V : Vars env h m) (hx : isCellN env x = true)
    (q : ∀ h' t' a, Vars env h' (upd m x v) → (a = env.locals ∨ env.cells.lookup x = some a) → Heap.SameBut a h h' → Q () ⟨h', gs, dr, t', os⟩) : wpAny M A (storeName env x v) Q E ⟨h, gs, dr, t, os⟩ := by
  simp only [isCellN, Bool.and_eq_true, beq_iff_eq, Bool.not_eq_true'] at hx
  obtain ⟨c, hc⟩ := Option.isSome_iff_exists.mp hx.1.2
  obtain ⟨ml, n, e⟩ := V.ns
  refine wpAny_storeName_cell V.kind hx.1.1 hc (V.cell x c hc) fun h' hv hs => q h' _ _ ⟨V.kind, ⟨ml, n.sameBut hs (V.above x c (mem_of_lookup hc)), fun y hy => ?_⟩, fun y d hd => ?_, V.apart, V.above, V.glob, V.blt, V.ck⟩ (.inr hc) hs
  · have hyx : y ≠ x := fun q => V.ck x c hc (q ▸ hy)
    rw [upd_ne hyx, e y hy]
  · by_cases hyx : y = x
    · subst hyx; rw [hc] at hd; cases hd; rw [upd_self]; exact hv
    · rw [upd_ne hyx]; exact (V.cell y d hd).sameBut hs (ne_cells V.apart hd hc hyx)

theorem own_of {env : Env} {x : Str} {a : Addr} (h : a = env.locals ∨ env.cells.lookup x = some a) : Own env a := h.elim .inl fun e => .inr ⟨x, e⟩
/-- a store to either kind -/
theorem store_any {x : Str} {v : Value} {Q : Unit → Shared → Prop} (V : Vars env h m) (hx : (isLocal env x || isCellN env x) = true)
    (q : ∀ h' t' a, Vars env h' (upd m x v) → (a = env.locals ∨ env.cells.lookup x = some a) → Heap.SameBut a h h' → Q () ⟨h', gs, dr, t', os⟩) : wpAny M A (storeName env x v) Q E ⟨h, gs, dr, t, os⟩ := by
  rcases Bool.or_eq_true_iff.mp hx with hx | hx
  · exact store_loc V hx q
  · exact store_cell V hx q
theorem bind_any {x : Str} {v : Value} {Q : Unit → Shared → Prop} (V : Vars env h m) (hx : (isLocal env x || isCellN env x) = true)
    (q : ∀ h' t' a, Vars env h' (upd m x v) → (a = env.locals ∨ env.cells.lookup x = some a) → Heap.SameBut a h h' → Q () ⟨h', gs, dr, t', os⟩) : wpAny M A (bindName env x v) Q E ⟨h, gs, dr, t, os⟩ := by
  unfold bindName
  exact wpAny_bind (wpAny_holding (wpAny_point (wpAny_bind (store_any V hx fun h' t' a' a b c => wpAny_point (q h' t' a' a b c)))))
end

/-! ## names of the top -/
def isGlob (env : Env) (x : Str) : Bool := (env.kindOf x == some .globalImplicit) && !(x == ("__debug__" : Str))
section
variable {M : Model} {A : Around} {E : Value → Shared → Prop} {env : Env} {h : Heap} {gs : Array GenState} {dr : Drawn} {t : Nat} {os : OsState} {m : Str → Option Value} {w : PySem.World}
theorem ev_glob {x : Str} {pos : Pos} {v : Value} {Q : Value → Shared → Prop} (V : Vars env h m) (W : Wd w h) (hx : isGlob env x = true) (e : nsIn (KP w) mainGlobals x = some (some v)) (q : Q v ⟨h, gs, dr, t, os⟩) :
    wpAny M A (eval (.Name x pos) env) Q E ⟨h, gs, dr, t, os⟩ := by
  simp only [isGlob, Bool.and_eq_true, beq_iff_eq, Bool.not_eq_true'] at hx
  obtain ⟨mg, mb, T⟩ := W.T
  exact Calls.Name_function_global V.kind hx.1 (Calls.loadGlobal_global (env := env) (V.glob ▸ T.g) (mg_of W.K T.g e) q) hx.2
theorem ev_blt {x : Str} {pos : Pos} {v : Value} {Q : Value → Shared → Prop} (V : Vars env h m) (W : Wd w h) (hx : isGlob env x = true) (e : nsIn (KP w) mainGlobals x = some none) (hv : bootBuiltins x = some v) (hn : x ≠ "__name__") (q : Q v ⟨h, gs, dr, t, os⟩) :
    wpAny M A (eval (.Name x pos) env) Q E ⟨h, gs, dr, t, os⟩ := by
  simp only [isGlob, Bool.and_eq_true, beq_iff_eq, Bool.not_eq_true'] at hx
  obtain ⟨mg, mb, T⟩ := W.T
  exact Calls.Name_function_global V.kind hx.1 (Calls.loadGlobal_builtin (env := env) (V.glob ▸ T.g) (mg_none_of W.K T.g e) (V.blt ▸ T.b) ((T.builtins x hn).trans hv) q) hx.2
end

/-- what an expression's run wants: the names, the frozen part, the world -/
structure Ex (w : PySem.World) (env : Env) (m : Str → Option Value) (g h : Heap) : Prop where
  V : Vars env h m
  sub : Sub g h
  out : ∀ b, Own env b → g.get? b = none
  W : Wd w g
theorem Ex.Wh {w : PySem.World} {env : Env} {m : Str → Option Value} {g h : Heap} (X : Ex w env m g h) : Wd w h := X.W.mono X.sub
theorem Ex.step {w : PySem.World} {env : Env} {m : Str → Option Value} {wr : Addr → Prop} {g h g' h' : Heap} (X : Ex w env m g h) (gr : Grow wr g h g' h') (hw : ∀ b, wr b → ¬ Own env b) : Ex w env m g' h' where
  V := X.V.mono fun b o ob e => gr.keep b o (fun q => hw b q ob) e
  sub := gr.sub
  out := fun b ob => let ⟨_, e⟩ := X.V.there ob; gr.out (X.out b ob) e
  W := X.W.mono gr.le
theorem Ex.step0 {w : PySem.World} {env : Env} {m : Str → Option Value} {g h g' h' : Heap} (X : Ex w env m g h) (gr : Grow NoW g h g' h') : Ex w env m g' h' := X.step gr fun _ f => f.elim

/-- in the body of a def: from the call's start (g₀, h₀) on; μ: the ledger of what the frame made and still changes -/
structure Fn (w : PySem.World) (wr : Addr → Prop) (g₀ h₀ : Heap) (env : Env) (μ : List (Addr × Obj)) (m : Str → Option Value) (g h : Heap) : Prop extends Ex w env m g h where
  gr : Grow wr g₀ h₀ g h
  new : ∀ b, Own env b → h₀.get? b = none
  wrn : ∀ b, wr b → ∃ o, h₀.get? b = some o
  led : ∀ p ∈ μ, h.get? p.1 = some p.2 ∧ g.get? p.1 = none ∧ h₀.get? p.1 = none ∧ ¬ Own env p.1
  dis : (μ.map (·.1)).Nodup
section
variable {w : PySem.World} {wr : Addr → Prop} {g₀ h₀ : Heap} {env : Env} {μ : List (Addr × Obj)} {m m' : Str → Option Value} {g h g' h' : Heap}
theorem Fn.wrOwn (F : Fn w wr g₀ h₀ env μ m g h) : ∀ b, wr b → ¬ Own env b := fun b q ob => by
  obtain ⟨o, e⟩ := F.wrn b q; rw [F.new b ob] at e; cases e
theorem Fn.wrLed (F : Fn w wr g₀ h₀ env μ m g h) {p : Addr × Obj} (hp : p ∈ μ) : ¬ wr p.1 := fun q => by
  obtain ⟨o, e⟩ := F.wrn _ q; rw [(F.led p hp).2.2.1] at e; cases e
theorem Fn.step (F : Fn w wr g₀ h₀ env μ m g h) (gr : Grow wr g h g' h') : Fn w wr g₀ h₀ env μ m g' h' :=
  ⟨F.toEx.step gr F.wrOwn, F.gr.trans gr, F.new, F.wrn, fun p hp => let ⟨a, b, c, d⟩ := F.led p hp; ⟨gr.keep _ _ (F.wrLed hp) a, gr.out b a, c, d⟩, F.dis⟩
theorem Fn.step0 (F : Fn w wr g₀ h₀ env μ m g h) (gr : Grow NoW g h g' h') : Fn w wr g₀ h₀ env μ m g' h' := F.step gr.of0

/-- a change at one address that the call made and that is not frozen -/
theorem Fn.mut (F : Fn w wr g₀ h₀ env μ m g h) {a : Addr} (hs : Heap.ExtBut a h h') (ha : h₀.get? a = none) (hg : g.get? a = none) (V : Vars env h' m') {μ' : List (Addr × Obj)}
    (hl : ∀ p ∈ μ', (p.1 = a ∧ h'.get? a = some p.2 ∧ ¬ Own env a) ∨ (p.1 ≠ a ∧ p ∈ μ)) (hd : (μ'.map (·.1)).Nodup) : Fn w wr g₀ h₀ env μ' m' g h' where
  V := V
  sub := fun b o e => hs b o (fun q => by rw [q, hg] at e; cases e) (F.sub b o e)
  out := F.out
  W := F.W
  gr := ⟨F.gr.le, fun b o e => hs b o (fun q => by rw [q, hg] at e; cases e) (F.sub b o e), F.gr.new, fun b o nb e => hs b o (fun q => by rw [q, ha] at e; cases e) (F.gr.keep b o nb e), fun b e => by
      by_cases hb : b = a
      · rw [hb]; exact ha
      · refine F.gr.dom b ?_
        cases q : h.get? b with
        | none => rfl
        | some o => rw [hs b o hb q] at e; cases e⟩
  new := F.new
  wrn := F.wrn
  led := fun p hp => by
    rcases hl p hp with ⟨q, e, o⟩ | ⟨q, hm⟩
    · rw [q]; exact ⟨e, hg, ha, o⟩
    · obtain ⟨e1, e2, e3, e4⟩ := F.led p hm
      exact ⟨hs _ _ q e1, e2, e3, e4⟩
  dis := hd
theorem Fn.store {x : Str} {a : Addr} (F : Fn w wr g₀ h₀ env μ m g h) (V : Vars env h' m') (ha : a = env.locals ∨ env.cells.lookup x = some a) (hs : Heap.ExtBut a h h') : Fn w wr g₀ h₀ env μ m' g h' :=
  F.mut hs (F.new a (own_of ha)) (F.out a (own_of ha)) V (fun p hp => .inr ⟨fun q => (F.led p hp).2.2.2 (q ▸ own_of ha), hp⟩) F.dis
/-- the head of the ledger changes -/
theorem Fn.mut1 {a : Addr} {o o' : Obj} (F : Fn w wr g₀ h₀ env ((a, o) :: μ) m g h) (hs : Heap.ExtBut a h h') (he : h'.get? a = some o') : Fn w wr g₀ h₀ env ((a, o') :: μ) m g h' := by
  obtain ⟨e1, e2, e3, e4⟩ := F.led _ (.head _)
  have hd := F.dis
  rw [List.map_cons, List.nodup_cons] at hd
  refine F.mut hs e3 e2 (F.V.mono fun b ob oo e => hs b ob (fun q => e4 (q ▸ oo)) e) (fun p hp => ?_) F.dis
  rcases List.mem_cons.mp hp with q | hp
  · exact .inl ⟨by rw [q], by rw [q]; exact he, e4⟩
  · exact .inr ⟨fun q => hd.1 (q ▸ (List.mem_map_of_mem (f := (·.1)) hp : p.1 ∈ _)), .tail _ hp⟩
theorem Fn.swap {p q : Addr × Obj} (F : Fn w wr g₀ h₀ env (p :: q :: μ) m g h) : Fn w wr g₀ h₀ env (q :: p :: μ) m g h :=
  ⟨F.toEx, F.gr, F.new, F.wrn, fun r hr => F.led r (by
    rcases List.mem_cons.mp hr with rfl | hr
    · exact .tail _ (.head _)
    · rcases List.mem_cons.mp hr with rfl | hr
      · exact .head _
      · exact .tail _ (.tail _ hr)), by
    have := F.dis
    simp only [List.map_cons, List.nodup_cons, List.mem_cons, not_or] at this ⊢
    exact ⟨⟨fun e => this.1.1 e.symm, this.2.1⟩, this.1.2, this.2.2⟩⟩
theorem Fn.mut2 {a : Addr} {o o' : Obj} {p : Addr × Obj} (F : Fn w wr g₀ h₀ env (p :: (a, o) :: μ) m g h) (hs : Heap.ExtBut a h h') (he : h'.get? a = some o') : Fn w wr g₀ h₀ env (p :: (a, o') :: μ) m g h' :=
  (F.swap.mut1 hs he).swap
theorem Fn.drop {p : Addr × Obj} (F : Fn w wr g₀ h₀ env (p :: μ) m g h) : Fn w wr g₀ h₀ env μ m g h :=
  ⟨F.toEx, F.gr, F.new, F.wrn, fun r hr => F.led r (.tail _ hr), by have := F.dis; rw [List.map_cons, List.nodup_cons] at this; exact this.2⟩
/-- a thing of one's own comes onto the ledger -/
theorem Fn.push {a : Addr} {o : Obj} (F : Fn w wr g₀ h₀ env μ m g h) (ha : h.get? a = none) (hk : Sub h h') (he : h'.get? a = some o) : Fn w wr g₀ h₀ env ((a, o) :: μ) m g h' := by
  have hg : g.get? a = none := by
    cases e : g.get? a with
    | none => rfl
    | some o' => rw [F.sub a o' e] at ha; cases ha
  have hne : ∀ p ∈ μ, p.1 ≠ a := fun p hp q => by have := (F.led p hp).1; rw [q, ha] at this; cases this
  have hO : ¬ Own env a := fun q => by obtain ⟨o', e⟩ := F.V.there q; rw [ha] at e; cases e
  refine F.mut (fun b o' _ e => hk b o' e) (F.gr.dom a ha) hg (F.V.up hk) (fun p hp => ?_) ?_
  · rcases List.mem_cons.mp hp with q | hp
    · exact .inl ⟨by rw [q], by rw [q]; exact he, hO⟩
    · exact .inr ⟨hne p hp, hp⟩
  · rw [List.map_cons, List.nodup_cons]
    exact ⟨fun q => by obtain ⟨p, hp, e⟩ := List.mem_map.mp q; exact hne p hp e, F.dis⟩
/-- the head of the ledger freezes -/
theorem Fn.freeze {a : Addr} {o : Obj} (F : Fn w wr g₀ h₀ env ((a, o) :: μ) m g h) : Fn w wr g₀ h₀ env μ m (plus g h fun b => b = a) h ∧ (plus g h fun b => b = a).get? a = some o ∧ Sub g (plus g h fun b => b = a) := by
  obtain ⟨e1, e2, e3, e4⟩ := F.led _ (.head _)
  have hd := F.dis
  rw [List.map_cons, List.nodup_cons] at hd
  refine ⟨⟨⟨F.V, plus_sub, fun b ob => ?_, F.W.mono (plus_le F.sub)⟩, F.gr.freeze _ fun b q => q ▸ e3, F.new, F.wrn, fun p hp => ?_, hd.2⟩, plus_at rfl e1, plus_le F.sub⟩
  · cases e : (plus g h fun b => b = a).get? b with
    | none => rfl
    | some o' =>
      rcases plus_new F.sub b o' e with q | q
      · rw [F.out b ob] at q; cases q
      · exact absurd (q ▸ ob) e4
  · obtain ⟨k1, k2, k3, k4⟩ := F.led p (.tail _ hp)
    refine ⟨k1, ?_, k3, k4⟩
    cases e : (plus g h fun b => b = a).get? p.1 with
    | none => rfl
    | some o' =>
      rcases plus_new F.sub _ o' e with q | q
      · rw [k2] at q; cases q
      · exact absurd (List.mem_map_of_mem (f := (·.1)) hp : p.1 ∈ _) (q ▸ hd.1)
end
end
section
set_option maxRecDepth 100000
open PySem PySem.W PySem.Calls PyProof.Rows
/-! ## the frame of a comprehension -/
def clOf (env : Env) : List (Str × NameKind) → List (Str × Addr) → List (Str × Addr)
  | [], acc => acc
  | (n, k) :: r, acc => if k == .free then clOf env r ((n, (env.cells.lookup n).getD 0) :: acc) else clOf env r acc

theorem closureFor_eq {scope : Scope} {env : Env} (h : (scope.names.all fun x => x.2 != .free || (env.cells.lookup x.1).isSome) = true) : closureFor scope env = pure (clOf env scope.names []) := by
  have key : ∀ (names : List (Str × NameKind)) (acc : List (Str × Addr)), (names.all fun x => x.2 != .free || (env.cells.lookup x.1).isSome) = true →
      (forIn names acc fun (x : Str × NameKind) (r : List (Str × Addr)) => (if x.2 == .free then (do let c ← cellOf env x.1; pure (ForInStep.yield ((x.1, c) :: r))) else pure (ForInStep.yield r) : Sem _)) = pure (clOf env names acc) := by
    intro names
    induction names with
    | nil => intro acc _; rfl
    | cons y r ih =>
      intro acc hh
      obtain ⟨n, k⟩ := y
      rw [List.all_cons, Bool.and_eq_true] at hh
      rw [List.forIn_cons]
      unfold clOf
      by_cases hk : (k == NameKind.free) = true
      · have h1 : (env.cells.lookup n).isSome = true := by
          have := hh.1
          simp only [bne, hk, Bool.not_true, Bool.false_or] at this
          exact this
        obtain ⟨c, hc⟩ := Option.isSome_iff_exists.mp h1
        have hco : cellOf env n = pure c := by unfold cellOf; rw [hc]
        simp only [hk, if_true, hco, pure_bind, hc, Option.getD_some]
        exact ih _ hh.2
      · have hk' : (k == NameKind.free) = false := by simpa using hk
        simp only [hk', Bool.false_eq_true, if_false, pure_bind]
        exact ih _ hh.2
  unfold closureFor
  have := key scope.names [] h
  simp only [bind_pure]
  rw [← this]

theorem cellsFrom_app : ∀ (names : List (Str × NameKind)) (n : Nat) (acc : List (Str × Addr)), cellsFrom n names acc = cellsFrom n names [] ++ acc
  | [], _, acc => rfl
  | (x, k) :: r, n, acc => by
    unfold cellsFrom
    split
    · rw [cellsFrom_app r (n + 1) ((x, n) :: acc), cellsFrom_app r (n + 1) [(x, n)], List.append_assoc]; rfl
    · exact cellsFrom_app r n acc

theorem clOf_mem {env : Env} : ∀ (names : List (Str × NameKind)) (acc : List (Str × Addr)) {x : Str} {c : Addr}, (names.all fun x => x.2 != .free || (env.cells.lookup x.1).isSome) = true → (x, c) ∈ clOf env names acc → (x, c) ∈ acc ∨ env.cells.lookup x = some c
  | [], _, _, _, _, hm => .inl hm
  | (n, k) :: r, acc, x, c, hh, hm => by
    rw [List.all_cons, Bool.and_eq_true] at hh
    unfold clOf at hm
    by_cases hk : (k == NameKind.free) = true
    · rw [if_pos hk] at hm
      have h1 : (env.cells.lookup n).isSome = true := by
        have := hh.1
        simp only [bne, hk, Bool.not_true, Bool.false_or] at this
        exact this
      obtain ⟨d, hd⟩ := Option.isSome_iff_exists.mp h1
      rcases clOf_mem r _ hh.2 hm with h | h
      · rcases List.mem_cons.mp h with h | h
        · cases h; right; rw [hd]; rfl
        · exact .inl h
      · exact .inr h
    · rw [if_neg hk] at hm
      exact clOf_mem r acc hh.2 hm

/-- the frame's names as a comprehension sees them -/
def capt (cl : List (Str × Addr)) (m : Str → Option Value) : Str → Option Value := fun y => if (cl.lookup y).isSome then m y else none

def cenvOf (scope : Scope) (env : Env) (C : Addr) : Env :=
  { scope := relabel scope env, locals := C, globals := env.globals, cells := cellsFrom (C + 1) scope.names (clOf env scope.names []), qual := env.qual, func := none, code := env.code, frame := env.frame, builtins := env.builtins }

/-- what the look at a comprehension's table must show -/
def compOk (scope : Scope) (env : Env) : Bool :=
  (scope.names.all fun y => y.2 != .free || (env.cells.lookup y.1).isSome) && (scope.kind == .function) &&
  (scope.names.all fun y => y.2 != .local || scope.names.lookup y.1 == some .local) &&
  ((cellsFrom 0 scope.names (clOf env scope.names [])).all fun y => (relabel scope env).names.lookup y.1 != some .local) &&
  (((clOf env scope.names []).map (·.1)).Nodup : Bool) &&
  ((clOf env scope.names []).all fun y => (cellsFrom 0 scope.names []).lookup y.1 == none)

theorem nodup_pair {cl : List (Str × Addr)} {env : Env} (hn : (cl.map (·.1)).Nodup) (hm : ∀ x c, (x, c) ∈ cl → env.cells.lookup x = some c) (ap : env.cells.Pairwise fun x y => x.2 ≠ y.2) : cl.Pairwise fun x y => x.2 ≠ y.2 := by
  induction cl with
  | nil => exact .nil
  | cons y r ih =>
    rw [List.map_cons, List.nodup_cons] at hn
    refine List.pairwise_cons.mpr ⟨fun z hz e => ?_, ih hn.2 fun x c h => hm x c (.tail _ h)⟩
    have h1 := hm y.1 y.2 (.head _)
    have h2 := hm z.1 z.2 (.tail _ hz)
    have : y.1 = z.1 := name_of_addr ap (mem_of_lookup h1) (e ▸ mem_of_lookup h2)
    exact hn.1 (this ▸ List.mem_map_of_mem hz)
theorem lookup_app {α : Type} {l l' : List (Str × α)} {x : Str} : (l ++ l').lookup x = (l.lookup x).or (l'.lookup x) := List.lookup_append
theorem lookup_of_mem_nodup' {α : Type} : ∀ {l : List (Str × α)} {x : Str} {c : α}, (l.map (·.1)).Nodup → (x, c) ∈ l → l.lookup x = some c
  | y :: r, x, c, hn, hm => by
    rw [List.map_cons, List.nodup_cons] at hn
    rw [List.lookup_cons]
    rcases List.mem_cons.mp hm with e | hm
    · subst e; simp
    · have : (x == y.1) = false := by
        rw [beq_eq_false_iff_ne]; rintro rfl; exact hn.1 (List.mem_map_of_mem (f := (·.1)) hm)
      rw [this]; exact lookup_of_mem_nodup' hn.2 hm

theorem comp_vars {scope : Scope} {env : Env} {h h₁ : Heap} {m : Str → Option Value} (V : Vars env h₁ m) (hok : compOk scope env = true) (hs : ∀ b o, h₁.get? b = some o → h.get? b = some o) :
    Vars (cenvOf scope env h.objs.size) (pushCells (h.push { cls := .type "dict", data := .dict #[] }) scope.names) (capt (clOf env scope.names []) m) := by
  simp only [compOk, Bool.and_eq_true, decide_eq_true_eq] at hok
  obtain ⟨⟨⟨⟨⟨h1, h2⟩, h3⟩, h4⟩, h5⟩, h6⟩ := hok
  have ok := cellsFrom_ok scope.names (h.push { cls := .type "dict", data := .dict #[] }) (h.objs.size + 1) [] ⟨fun _ _ hm => (nomatch hm), List.Pairwise.nil⟩ (by rw [Heap.size_push]; exact Nat.le_refl _)
  rw [Heap.size_push] at ok
  have hcl : ∀ y c, (y, c) ∈ clOf env scope.names [] → env.cells.lookup y = some c := fun y c hm => by
    rcases clOf_mem _ _ h1 hm with hm | hm
    · cases hm
    · exact hm
  have hlt : ∀ y c, (y, c) ∈ clOf env scope.names [] → c < h.objs.size := fun y c hm => by
    obtain ⟨o, e, _⟩ := V.cell y c (hcl y c hm)
    exact Heap.lt_size (hs c o e)
  have up : ∀ b o, h.get? b = some o → (pushCells (h.push { cls := .type "dict", data := .dict #[] }) scope.names).get? b = some o := fun b o e => pushCells_keeps _ _ b o (Heap.get?_push_of_some _ e)
  refine ⟨by simpa [cenvOf, relabel] using h2, ⟨fun _ => none, (Heap.Ns.new h (.type "dict")).keeps (pushCells_keeps _ _), fun y hy => ?_⟩, fun y c hc => ?_, ?_, fun n c hm => ?_, V.glob, V.blt, fun y c hc hl => ?_⟩
  · -- a local name is no captured one
    unfold capt
    cases q : (clOf env scope.names []).lookup y with
    | none => rfl
    | some d =>
      exfalso
      have hm := mem_of_lookup q
      have h4' := List.all_eq_true.mp h4 (y, d) (by rw [cellsFrom_app]; exact List.mem_append_right _ hm)
      simp only [bne_iff_ne] at h4'
      exact h4' hy
  · have hc' : (cellsFrom (h.objs.size + 1) scope.names (clOf env scope.names [])).lookup y = some c := hc
    rw [cellsFrom_app, lookup_app] at hc'
    cases q : (cellsFrom (h.objs.size + 1) scope.names []).lookup y with
    | some d =>
      rw [q] at hc'; cases hc'
      have : capt (clOf env scope.names []) m y = none := by
        unfold capt
        cases q2 : (clOf env scope.names []).lookup y with
        | none => rfl
        | some d' =>
          exfalso
          have h6' := List.all_eq_true.mp h6 (y, d') (mem_of_lookup q2)
          have e := cellsFrom_names scope.names 0 (h.objs.size + 1) [] [] rfl
          have : y ∈ (cellsFrom 0 scope.names []).map (·.1) := by rw [e]; exact List.mem_map_of_mem (f := (·.1)) (mem_of_lookup q)
          obtain ⟨z, hz, rfl⟩ := List.mem_map.mp this
          rw [beq_iff_eq] at h6'
          have : ((cellsFrom 0 scope.names []).lookup z.1).isSome := by
            rw [List.lookup_isSome_iff]; exact ⟨z, hz, by simp⟩
          rw [h6'] at this; cases this
      rw [this]
      exact (ok.empty y c (mem_of_lookup q)).1
    | none =>
      rw [q] at hc'
      have q2 : (clOf env scope.names []).lookup y = some c := hc'
      have : capt (clOf env scope.names []) m y = m y := by unfold capt; rw [q2]; rfl
      rw [this]
      exact (V.cell y c (hcl y c (mem_of_lookup q2))).keeps fun b o e => up b o (hs b o e)
  · show (cellsFrom (h.objs.size + 1) scope.names (clOf env scope.names [])).Pairwise _
    rw [cellsFrom_app]
    refine List.pairwise_append.mpr ⟨ok.apart, nodup_pair h5 hcl V.apart, fun a ha b hb e => ?_⟩
    have h1 := (ok.empty a.1 a.2 ha).2
    have h2 := hlt b.1 b.2 hb
    rw [e] at h1; exact absurd (Nat.lt_of_lt_of_le h2 (Nat.le_of_succ_le h1)) (Nat.lt_irrefl _)
  · have hm' : (n, c) ∈ cellsFrom (h.objs.size + 1) scope.names (clOf env scope.names []) := hm
    rw [cellsFrom_app] at hm'
    show h.objs.size ≠ c
    rcases List.mem_append.mp hm' with hm' | hm'
    · exact Nat.ne_of_lt (ok.empty n c hm').2
    · exact Nat.ne_of_gt (hlt n c hm')
  · have hc' : (cellsFrom (h.objs.size + 1) scope.names (clOf env scope.names [])).lookup y = some c := hc
    have hmem : y ∈ (cellsFrom (h.objs.size + 1) scope.names (clOf env scope.names [])).map (·.1) := List.mem_map_of_mem (f := (·.1)) (mem_of_lookup hc')
    rw [← cellsFrom_names scope.names 0 (h.objs.size + 1) _ _ rfl] at hmem
    obtain ⟨z, hz, rfl⟩ := List.mem_map.mp hmem
    have h4' := List.all_eq_true.mp h4 z hz
    simp only [bne_iff_ne] at h4'
    exact h4' hl
end
section
set_option maxRecDepth 100000
open PySem PySem.W PySem.Calls PyProof.Rows
theorem Paired.map {α β : Type} {F G : α → β → Prop} : ∀ {l₁ : List α} {l₂ : List β}, Paired F l₁ l₂ → (∀ a b, F a b → G a b) → Paired G l₁ l₂
  | _, _, .nil, _ => .nil
  | _, _, .cons a b, h => .cons (h _ _ a) (Paired.map b h)
theorem own_cenv {scope : Scope} {env : Env} {C b : Addr} (hok : compOk scope env = true) (o : Own (cenvOf scope env C) b) : b = C ∨ C + 1 ≤ b ∨ ∃ y, env.cells.lookup y = some b := by
  simp only [compOk, Bool.and_eq_true, decide_eq_true_eq] at hok
  obtain ⟨⟨⟨⟨⟨h1, h2⟩, h3⟩, h4⟩, h5⟩, h6⟩ := hok
  rcases o with rfl | ⟨y, e⟩
  · exact .inl rfl
  · right
    have e' : (cellsFrom (C + 1) scope.names (clOf env scope.names [])).lookup y = some b := e
    rw [cellsFrom_app] at e'
    rcases List.mem_append.mp (mem_of_lookup e') with hm | hm
    · left
      have key : ∀ (names : List (Str × NameKind)) (n : Nat) (acc : List (Str × Addr)), (∀ p ∈ acc, C + 1 ≤ p.2) → C + 1 ≤ n → ∀ p ∈ cellsFrom n names acc, C + 1 ≤ p.2 := by
        intro names
        induction names with
        | nil => intro n acc ha _ p hp; exact ha p hp
        | cons z r ih =>
          intro n acc ha hn p hp
          obtain ⟨z1, z2⟩ := z
          unfold cellsFrom at hp
          split at hp
          · refine ih (n + 1) _ (fun q hq => ?_) (Nat.le_succ_of_le hn) p hp
            rcases List.mem_cons.mp hq with e | hq
            · rw [e]; exact hn
            · exact ha q hq
          · exact ih n acc ha hn p hp
      exact key _ _ _ (fun p hp => by cases hp) (Nat.le_refl _) _ hm
    · right
      rcases clOf_mem _ _ h1 hm with hm | hm
      · cases hm
      · exact ⟨y, hm⟩

theorem upd_upd {m : Str → Option Value} {x : Str} {u v : Value} : upd (upd m x u) x v = upd m x v := by
  funext y; unfold upd; by_cases h : y = x <;> simp [h]

section
variable {prog : Program} {w : World} {A : Around} {E : Value → Shared → Prop} {env : Env} {g h : Heap} {gs : Array GenState} {dr : Drawn} {t : Nat} {os : OsState} {m : Str → Option Value}

/-- the tests of a clause -/
abbrev testsOf (ifs : List Expr) (cenv : Env) : Sem Bool :=
  forIn ifs true fun c r => if r = true then do let ok ← isTrue c cenv (eval c cenv); pure (ForInStep.yield ok) else pure (ForInStep.yield r)

structure Turn (prog : Program) (w : World) (A : Around) (env : Env) (g h : Heap) (gs : Array GenState) (dr : Drawn) (os : OsState) (m : Str → Option Value) (scope : Scope) (x : Str) (elt : Expr) (ifs : List Expr)
    (n : Nat) (P : Nat → Value → Prop) (wrs : Addr → Prop) (Ms : Nat → Heap → Prop) (Y : Nat → Heap → Value → Prop) (p : Nat → Bool) : Prop where
  run : ∀ i C g₁ h₁ t₁ v E', i < n → P i v → Ex w (cenvOf scope env C) (upd (capt (clOf env scope.names []) m) x v) g₁ h₁ → Grow wrs g h g₁ h₁ → (∀ b, wrs b → ¬ Own (cenvOf scope env C) b) → Ms i h₁ →
    wpAny (model prog w) A (testsOf ifs (cenvOf scope env C)) (fun ok s₂ => if ok = true then p i = true ∧ wpAny (model prog w) A (eval elt (cenvOf scope env C))
        (fun y s₃ => ∃ g₃ h₃ t₃, s₃ = ⟨h₃, gs, dr, t₃, os⟩ ∧ Grow wrs g₁ h₁ g₃ h₃ ∧ Y i g₃ y ∧ Ms (i + 1) h₃) E' s₂
      else p i = false ∧ ∃ g₃ h₃ t₃, s₂ = ⟨h₃, gs, dr, t₃, os⟩ ∧ Grow wrs g₁ h₁ g₃ h₃ ∧ Ms (i + 1) h₃) E' ⟨h₁, gs, dr, t₁, os⟩

/-- hp: ahead of the iterator; h: behind it -/
theorem comp_block {hp : Heap} {elt iter : Expr} {x : Str} {px : Pos} {ifs : List Expr} {scope : Scope} {pos : Pos} {I : Addr} {fp wr : List Addr} {n : Nat} {P : Nat → Value → Prop} {St : Nat → Heap → Prop}
    (Wk : Walks prog w A I fp wr n P St) (hsz : n ≤ sizeLine) (hok : compOk scope env = true) (hx : ∀ C, (isLocal (cenvOf scope env C) x || isCellN (cenvOf scope env C) x) = true) (hxc : (clOf env scope.names []).lookup x = none)
    (X : Ex w env m g hp) (hph : Sub hp h) (hpI : hp.get? I = none) (hst : St 0 h) (hSI : ∀ i h, St i h → ∃ o, h.get? I = some o) (hwr : ∀ b ∈ wr, b = I)
    (hfp : ∀ b ∈ fp, b = I ∨ ∃ o, g.get? b = some o) {wrs : Addr → Prop} (hwrs : ∀ b, wrs b → ¬ Own env b ∧ (∃ o, hp.get? b = some o) ∧ g.get? b = none)
    {Ms : Nat → Heap → Prop} (hM0 : Ms 0 hp) (hMs : ∀ i h h', Ms i h → (∀ b o, wrs b → h.get? b = some o → h'.get? b = some o) → Ms i h')
    {Y : Nat → Heap → Value → Prop} (hY : ∀ i g g' y, Y i g y → Sub g g' → Y i g' y) {p : Nat → Bool}
    (T : Turn prog w A env g hp gs dr os m scope x elt ifs n P wrs Ms Y p) {RR : Value → Addr → Result → Shared → Prop}
    (hRR : ∀ D C g' h' t' ys m', hp.get? D = none → hp.get? C = none → D ≠ C → h'.Ns C m' → Grow wrs g hp g' h' → g'.get? C = none → g'.get? D = none → Lst h' D ys → ys.length ≤ n → Paired (fun i y => Y i g' y) ((List.range n).filter p) ys → Ms n h' →
      RR (.ref D) C (.ok .next) ⟨h', gs, dr, t', os⟩) :
    wpAny (model prog w) A (newList []) (fun acc s₃ => wpAny (model prog w) A (newFunctionEnv scope env.globals (clOf env scope.names []) [] env.qual none .none (some env)) (fun cenv s₄ =>
      codeAny (model prog w) A (.compStart (.ListComp elt [⟨.Name x px, iter, ifs, 0⟩] scope pos) 0 (.ref I) acc { cenv with scope := relabel scope env }) (RR acc cenv.locals) s₄) E s₃) E ⟨h, gs, dr, t, os⟩ := by
  obtain ⟨V, sub, out, W⟩ := X
  refine wpAny_newObj_type ?_
  dsimp only
  generalize hH2 : h.push { cls := .type "list", dict := none, data := .seq ([] : List Value).toArray } = H2
  have hC : H2.objs.size = h.objs.size + 1 := by rw [← hH2, Heap.size_push]
  -- the frame of the comprehension
  have hnew : ∀ Q : Env → Shared → Prop, Q { scope, locals := H2.objs.size, globals := env.globals, cells := cellsFrom (H2.objs.size + 1) scope.names (clOf env scope.names []), qual := env.qual, func := none, code := env.code, frame := env.frame, builtins := env.builtins }
      ⟨pushCells (H2.push { cls := .type "dict", data := .dict #[] }) scope.names, gs, dr, t, os⟩ → wpAny (model prog w) A (newFunctionEnv scope env.globals (clOf env scope.names []) [] env.qual none .none (some env)) Q E ⟨H2, gs, dr, t, os⟩ := by
    intro Q q
    simp only [newFunctionEnv, Option.isSome_some, if_true]
    refine wpAny_bind (wpAny_alloc ?_)
    refine wpAny_bind (wpAny_layCells _ (fun name kind cells => by cases hkc : kind == NameKind.cell <;> simp) _ _ _ _ ?_)
    rw [show (Shared.mk (H2.push { cls := .type "dict", data := .dict #[] }) gs dr t os).heap.objs.size = H2.objs.size + 1 from Heap.size_push ..]
    rw [List.forIn_nil]
    exact wpAny_bind (wpAny_pure (wpAny_pure q))
  refine hnew _ ?_
  -- names
  have up2 : Sub h H2 := fun b o e => hH2 ▸ Heap.get?_push_of_some _ e
  have V0 := comp_vars (h := H2) V hok (hph.trans up2)
  generalize hH3 : pushCells (H2.push { cls := .type "dict", data := .dict #[] }) scope.names = H3 at V0 ⊢
  have up3 : Sub H2 H3 := fun b o e => hH3 ▸ pushCells_keeps _ _ b o (Heap.get?_push_of_some _ e)
  have up : Sub h H3 := up2.trans up3
  have upp : Sub hp H3 := hph.trans up
  have hDD : Lst H3 h.objs.size [] := ⟨0, up3 _ _ (hH2 ▸ Heap.get?_push_size _ rfl)⟩
  have fresh : ∀ a, h.objs.size ≤ a → hp.get? a = none := fun a ha => by
    cases e : hp.get? a with
    | none => rfl
    | some o => have := hph a o e; rw [get_none_of ha] at this; cases this
  have gfresh : ∀ a, h.objs.size ≤ a → g.get? a = none := fun a ha => by
    cases e : g.get? a with
    | none => rfl
    | some o => have := sub a o e; rw [fresh a ha] at this; cases this
  obtain ⟨oI, hIo'⟩ := hSI 0 h hst
  have hI : g.get? I = none := by
    cases e : g.get? I with
    | none => rfl
    | some o => rw [sub I o e] at hpI; cases hpI
  have ownNe : ∀ b, Own (cenvOf scope env H2.objs.size) b → b ≠ I ∧ b ≠ h.objs.size ∧ g.get? b = none ∧ ¬ wrs b := fun b ob => by
    rcases own_cenv hok ob with rfl | hb | ⟨y, hb⟩
    · have hle : h.objs.size ≤ H2.objs.size := by rw [hC]; exact Nat.le_succ _
      refine ⟨fun e => ?_, by rw [hC]; exact Nat.succ_ne_self _, gfresh _ hle, fun q => ?_⟩
      · have := Heap.lt_size hIo'; rw [← e] at this; exact absurd (Nat.lt_of_lt_of_le this hle) (Nat.lt_irrefl _)
      · obtain ⟨_, ⟨o, e⟩, _⟩ := hwrs _ q; have := Heap.lt_size (hph _ o e); exact absurd (Nat.lt_of_lt_of_le this hle) (Nat.lt_irrefl _)
    · have hle : h.objs.size < b := by rw [hC] at hb; exact Nat.lt_of_succ_lt hb
      refine ⟨fun e => ?_, Nat.ne_of_gt hle, gfresh _ (Nat.le_of_lt hle), fun q => ?_⟩
      · have := Heap.lt_size hIo'; rw [← e] at this; exact absurd (Nat.lt_trans this hle) (Nat.lt_irrefl _)
      · obtain ⟨_, ⟨o, e⟩, _⟩ := hwrs _ q; have := Heap.lt_size (hph _ o e); exact absurd (Nat.lt_trans this hle) (Nat.lt_irrefl _)
    · have ow : Own env b := .inr ⟨y, hb⟩
      obtain ⟨o, e⟩ := V.there ow
      have e2 := hph b o e
      exact ⟨(fun q => by rw [q, hpI] at e; cases e), Nat.ne_of_lt (Heap.lt_size e2), out b ow, fun q => (hwrs b q).1 ow⟩
  have hDI : h.objs.size ≠ I := fun e => by have := Heap.lt_size hIo'; rw [← e] at this; exact Nat.lt_irrefl _ this
  have hDw : ¬ wrs h.objs.size := fun q => by obtain ⟨_, ⟨o, e⟩, _⟩ := hwrs _ q; exact Nat.lt_irrefl _ (Heap.lt_size (hph _ o e))
  have hst3 : St 0 H3 := Wk.frame _ _ _ hst fun b _ o e => up b o e
  have hM3 : Ms 0 H3 := hMs _ _ _ hM0 fun b o _ e => upp b o e
  have hIw : ¬ wrs I := fun q => by obtain ⟨_, ⟨o, e⟩, _⟩ := hwrs I q; rw [hpI] at e; cases e
  have gr3 : Grow wrs g hp g H3 := (Grow.mk0 Sub.refl (sub.trans upp) (fun _ _ e => .inl e) upp).of0
  -- the loop
  have loop : codeAny (model prog w) A (.compLoop (.ListComp elt [⟨.Name x px, iter, ifs, 0⟩] scope pos) 0 (.ref I) (.ref h.objs.size) (cenvOf scope env H2.objs.size))
      (RR (.ref h.objs.size) H2.objs.size) ⟨H3, gs, dr, t, os⟩ := by
    refine codeAny_compLoop_tests
      (fun k s' => ∃ H tk g₁ ys i mi, s' = ⟨H, gs, dr, tk, os⟩ ∧ St i H ∧ Lst H h.objs.size ys ∧ Vars (cenvOf scope env H2.objs.size) H mi ∧ (∀ v, upd mi x v = upd (capt (clOf env scope.names []) m) x v) ∧
        Grow wrs g hp g₁ H ∧ g₁.get? I = none ∧ g₁.get? h.objs.size = none ∧ (∀ b, Own (cenvOf scope env H2.objs.size) b → g₁.get? b = none) ∧ Paired (fun j y => Y j g₁ y) ((List.range i).filter p) ys ∧ ys.length ≤ i ∧ Ms i H ∧ i ≤ n ∧ k = n + 1 - i) ?_ (n + 1)
      ⟨H3, t, g, [], 0, _, rfl, hst3, hDD, V0, fun v => rfl, gr3, hI, gfresh _ (Nat.le_refl _), fun b ob => (ownNe b ob).2.2.1, .nil, Nat.zero_le _, hM3, Nat.zero_le _, rfl⟩
    rintro k s' ⟨H, tk, g₁, ys, i, mi, rfl, hst', hD', V', hmi, gr, gI, gD, gO, hP, hlen, hM, hi, rfl⟩
    by_cases hlt : i < n
    · refine Wk.item i _ _ _ hlt hst' fun v h₁ tk₁ hPv hst₁ hk₁ => ?_
      -- what the item's taking leaves
      have hk₁' : ∀ b o, b ≠ I → H.get? b = some o → h₁.get? b = some o := fun b o hb e => hk₁ b o (fun q => hb (hwr b q)) e
      have V₁ : Vars (cenvOf scope env H2.objs.size) h₁ mi := V'.mono fun b o ob e => hk₁' b o (ownNe b ob).1 e
      refine wpAny_assign_Name (store_any V₁ (hx _) fun h₂ t₂ a V₂ ha hs₂ => ?_)
      rw [hmi] at V₂
      have aO : Own (cenvOf scope env H2.objs.size) a := own_of ha
      have aN := ownNe a aO
      have aF : h.objs.size ≤ a := by
        rcases ha with rfl | ha
        · show h.objs.size ≤ H2.objs.size
          rw [hC]; exact Nat.le_succ _
        · have ha' : (cellsFrom (H2.objs.size + 1) scope.names (clOf env scope.names [])).lookup x = some a := ha
          rw [cellsFrom_app, lookup_app, hxc, Option.or_none] at ha'
          have ok := cellsFrom_ok scope.names (H2.push { cls := .type "dict", data := .dict #[] }) (H2.objs.size + 1) [] ⟨fun _ _ hm => (nomatch hm), List.Pairwise.nil⟩ (by rw [Heap.size_push]; exact Nat.le_refl _)
          rw [Heap.size_push] at ok
          have := (ok.empty x a (mem_of_lookup ha')).2
          rw [hC] at this
          exact Nat.le_trans (Nat.le_trans (Nat.le_succ _) (Nat.le_succ _)) this
      have hk₂ : ∀ b o, b ≠ I → b ≠ a → H.get? b = some o → h₂.get? b = some o := fun b o hb hba e => hs₂.extBut b o hba (hk₁' b o hb e)
      have sub₂ : Sub g₁ h₂ := fun b o e => hk₂ b o (fun q => by rw [q, gI] at e; cases e) (fun q => by rw [q, gO a aO] at e; cases e) (gr.sub b o e)
      obtain ⟨oI₁, hI₁⟩ := hSI _ _ hst₁
      have hI₂ : h₂.get? I = some oI₁ := hs₂.extBut I _ (Ne.symm aN.1) hI₁
      have gr₂ : Grow wrs g hp g₁ h₂ := by
        refine ⟨gr.le, sub₂, gr.new, fun b o nb e => ?_, fun b e => ?_⟩
        · have nb1 : b ≠ I := fun q => by rw [q, hpI] at e; cases e
          exact hk₂ b o nb1 (fun q => by rw [q, fresh a aF] at e; cases e) (gr.keep b o nb e)
        · by_cases hb : b = I
          · rw [hb, hI₂] at e; cases e
          · by_cases hba : b = a
            · rw [hba]; exact fresh a aF
            · refine gr.dom b ?_
              cases q : H.get? b with
              | none => rfl
              | some o => rw [hk₂ b o hb hba q] at e; cases e
      have hst₂ : St (i + 1) h₂ := Wk.frame _ _ _ hst₁ fun b hb o e => hs₂.extBut b o (fun q => by
        rcases hfp b hb with q2 | ⟨o', q2⟩
        · exact aN.1 (q ▸ q2)
        · rw [q, aN.2.2.1] at q2; cases q2) e
      have hD₂ : Lst h₂ h.objs.size ys := let ⟨o, e⟩ := hD'; ⟨o, hk₂ _ _ hDI (Ne.symm aN.2.1) e⟩
      have hM₂ : Ms i h₂ := hMs _ _ _ hM fun b o hb e => hk₂ b o (fun q => hIw (q ▸ hb)) (fun q => aN.2.2.2 (q ▸ hb)) e
      refine wpAny_mono (T.run i H2.objs.size g₁ h₂ t₂ v _ hlt hPv ⟨V₂, sub₂, gO, W.mono gr.le⟩ gr₂ (fun b q ob => (ownNe b ob).2.2.2 q) hM₂) (fun ok s₂ hs => ?_) fun _ _ e => e
      -- behind the turn
      have behind : ∀ g₃ h₃, Grow wrs g₁ h₂ g₃ h₃ → Ms (i + 1) h₃ → St (i + 1) h₃ ∧ Lst h₃ h.objs.size ys ∧ Vars (cenvOf scope env H2.objs.size) h₃ (upd (capt (clOf env scope.names []) m) x v) ∧
          Grow wrs g hp g₃ h₃ ∧ g₃.get? I = none ∧ g₃.get? h.objs.size = none ∧ (∀ b, Own (cenvOf scope env H2.objs.size) b → g₃.get? b = none) := by
        intro g₃ h₃ gr₃ _
        refine ⟨Wk.frame _ _ _ hst₂ fun b hb o e => ?_, ?_, V₂.mono fun b o ob e => gr₃.keep b o (ownNe b ob).2.2.2 e, gr₂.trans gr₃, gr₃.out gI hI₂, ?_, fun b ob => ?_⟩
        · rcases hfp b hb with q | ⟨o', q⟩
          · exact gr₃.keep b o (q ▸ hIw) e
          · have e1 := gr.le b o' q
            have e2 := sub₂ b o' e1
            rw [e] at e2; cases e2
            exact gr₃.sub b o (gr₃.le b o e1)
        · obtain ⟨o, e⟩ := hD₂; exact ⟨o, gr₃.keep _ _ hDw e⟩
        · obtain ⟨o, e⟩ := hD₂; exact gr₃.out gD e
        · obtain ⟨o, e⟩ := V₂.there ob; exact gr₃.out (gO b ob) e
      have hrng : (List.range (i + 1)).filter p = (List.range i).filter p ++ (if p i = true then [i] else []) := by
        rw [List.range_succ, List.filter_append]; congr 1; by_cases h : p i = true <;> simp [h]
      by_cases hok2 : ok = true
      · rw [if_pos hok2] at hs ⊢
        obtain ⟨hpi, hs⟩ := hs
        refine wpAny_mono hs (fun y s₃ hy => ?_) fun _ _ e => e
        obtain ⟨g₃, h₃, t₃, rfl, gr₃, hYy, hM₃⟩ := hy
        obtain ⟨b1, b2, b3, b4, b5, b6, b7⟩ := behind g₃ h₃ gr₃ hM₃
        have hys : (List.toArray ys).size ≤ sizeLine := by rw [List.size_toArray]; omega
        refine wpAny_list_append_plain (hsz := hys) b2 fun h₄ hl₄ hs₄ => ?_
        have ne4 : ∀ b, (g₃.get? b).isSome → b ≠ h.objs.size := fun b q e => by rw [e, b6] at q; cases q
        have k4 : ∀ b o, b ≠ h.objs.size → h₃.get? b = some o → h₄.get? b = some o := fun b o hb e => hs₄.extBut b o hb e
        refine ⟨n + 1 - (i + 1), by omega, h₄, t₃, g₃, ys ++ [y], i + 1, _, rfl, ?_, by simpa [Lst, Heap.PlainList] using hl₄, b3.mono fun b o ob e => k4 b o (ownNe b ob).2.1 e, fun u => upd_upd, ?_, b5, b6, b7, ?_, ?_, ?_, hlt, rfl⟩
        · refine Wk.frame _ _ _ b1 fun b hb o e => k4 b o (fun q => ?_) e
          rcases hfp b hb with q2 | ⟨o', q2⟩
          · exact hDI (q ▸ q2)
          · rw [q, gfresh _ (Nat.le_refl _)] at q2; cases q2
        · refine ⟨b4.le, fun b o e => k4 b o (ne4 b (by rw [e]; rfl)) (b4.sub b o e), b4.new, fun b o nb e => k4 b o (fun q => by rw [q, fresh _ (Nat.le_refl _)] at e; cases e) (b4.keep b o nb e), fun b e => ?_⟩
          by_cases hb : b = h.objs.size
          · rw [hb]; exact fresh _ (Nat.le_refl _)
          · refine b4.dom b ?_
            cases q : h₃.get? b with
            | none => rfl
            | some o => rw [k4 b o hb q] at e; cases e
        · rw [hrng, if_pos hpi]
          exact Paired.snoc (Paired.map hP fun j y' q => hY j _ _ y' q gr₃.le) hYy
        · simp; omega
        · exact hMs _ _ _ hM₃ fun b o hb e => k4 b o (fun q => hDw (q ▸ hb)) e
      · rw [if_neg hok2] at hs ⊢
        obtain ⟨hpi, g₃, h₃, t₃, rfl, gr₃, hM₃⟩ := hs
        obtain ⟨b1, b2, b3, b4, b5, b6, b7⟩ := behind g₃ h₃ gr₃ hM₃
        refine ⟨n + 1 - (i + 1), by omega, h₃, t₃, g₃, ys, i + 1, _, rfl, b1, b2, b3, fun u => upd_upd, b4, b5, b6, b7, ?_, Nat.le_succ_of_le hlen, hM₃, hlt, rfl⟩
        rw [hrng, hpi]
        simpa using Paired.map hP fun j y' q => hY j _ _ y' q gr₃.le
    · obtain rfl : i = n := Nat.le_antisymm hi (Nat.not_lt.mp hlt)
      refine Wk.done _ _ _ hst' fun h₁ tk₁ hk₁ => ?_
      have hk₁' : ∀ b o, b ≠ I → H.get? b = some o → h₁.get? b = some o := fun b o hb e => hk₁ b o (fun q => hb (hwr b q)) e
      have gr₁ : Grow wrs g hp g₁ h₁ := by
        refine ⟨gr.le, fun b o e => hk₁' b o (fun q => by rw [q, gI] at e; cases e) (gr.sub b o e), gr.new, fun b o nb e => hk₁' b o (fun q => by rw [q, hpI] at e; cases e) (gr.keep b o nb e), fun b e => ?_⟩
        by_cases hb : b = I
        · rw [hb]; exact hpI
        · refine gr.dom b ?_
          cases q : H.get? b with
          | none => rfl
          | some o => rw [hk₁' b o hb q] at e; cases e
      obtain ⟨ml, hns, _⟩ := V'.ns
      have hCO : Own (cenvOf scope env H2.objs.size) H2.objs.size := .inl rfl
      refine hRR _ _ g₁ h₁ tk₁ ys ml (fresh _ (Nat.le_refl _)) (fresh _ (by rw [hC]; exact Nat.le_succ _)) (by rw [hC]; exact (Nat.succ_ne_self _).symm) (hns.at' fun o e => hk₁' _ o (ownNe _ hCO).1 e) gr₁ (gO _ hCO) gD
        (let ⟨o, e⟩ := hD'; ⟨o, hk₁' _ _ hDI e⟩) hlen hP (hMs _ _ _ hM fun b o hb e => hk₁' b o (fun q => hIw (q ▸ hb)) e)
  exact codeAny_compStart_list loop (Wk.self 0 _ _ _ hst3 loop)
end
end
section
set_option maxRecDepth 100000
open PySem PySem.W PySem.Calls PyProof.Rows
theorem ext_of {h h' : Heap} {a : Addr} (hs : Heap.SameBut a h h') : Heap.ExtBut a h h' := hs.extBut

section
variable {prog : Program} {w : World} {A : Around} {E : Value → Shared → Prop} {env : Env} {g h : Heap} {gs : Array GenState} {dr : Drawn} {t : Nat} {os : OsState} {m : Str → Option Value}

/-- what may be iterated: its n values -/
def Src (prog : Program) (w : World) (A : Around) (g h : Heap) (xv : Value) (n : Nat) (P : Nat → Value → Prop) : Prop :=
  ∀ (gs : Array GenState) (dr : Drawn) (t : Nat) (os : OsState) (E : Value → Shared → Prop) (Q : Value → Shared → Prop),
    (∀ I fp wr St h' t', Walks prog w A I fp wr n P St → St 0 h' → (∀ i h, St i h → ∃ o, h.get? I = some o) → (∀ b ∈ wr, b = I) → (∀ b ∈ fp, b = I ∨ ∃ o, g.get? b = some o) → Sub h h' → h.get? I = none → Q (.ref I) ⟨h', gs, dr, t', os⟩) →
    wpAny (model prog w) A (pyIter xv) Q E ⟨h, gs, dr, t, os⟩

theorem src_list {a : Addr} {xs : List Value} (hh : A.handled = none) (s : Sub g h) (hl : Lst g a xs) : Src prog w A g h (.ref a) xs.length (fun i v => xs[i]? = some v) := fun gs dr t os E Q q => by
  have hl' := (hl.up s).is
  have hlt : a < h.objs.size := by obtain ⟨o, e, _⟩ := hl'; exact Heap.lt_size e
  refine wpAny_pyIter_list hl' ?_
  have Wk := Walks.list (prog := prog) (w := w) (A := A) hh h.objs.size a (Nat.ne_of_lt hlt) xs.toArray
  simp only [List.size_toArray, List.getElem?_toArray] at Wk
  refine q _ _ _ _ _ _ Wk ⟨⟨_, Heap.get?_push_size _ rfl, rfl, rfl⟩, hl'.push _⟩ (fun i h st => by obtain ⟨o, e, _⟩ := st.1; exact ⟨o, e⟩) (fun b hb => by simpa using hb) (fun b hb => ?_) (fun b o e => Heap.get?_push_of_some _ e) (get_none_of (Nat.le_refl _))
  rcases List.mem_cons.mp hb with rfl | hb
  · exact .inl rfl
  · rw [List.mem_singleton] at hb
    obtain ⟨o, e⟩ := hl
    exact .inr ⟨_, hb ▸ e⟩
theorem rangeSize0 (n : Nat) : Builtin.Range.rangeSize 0 (n : Int) 1 = (n : Int) := by rw [rangeSize_one]; split <;> omega
theorem fits0 {x : Int} (h0 : -1 ≤ x) (h1 : x ≤ 1099511627776) : Builtin.Range.rangeFitsLong x = true := by
  unfold Builtin.Range.rangeFitsLong
  rw [Bool.and_eq_true]
  exact ⟨decide_eq_true (by omega), decide_eq_true (by omega)⟩
theorem small0 {n : Nat} (hn : n ≤ 1099511627776) : Builtin.Range.small 0 (n : Int) 1 = true := by
  unfold Builtin.Range.small
  rw [rangeSize0, fits0 (by omega) (by omega), fits0 (by omega) (by omega), fits0 (by omega) (by omega), if_pos (by decide), fits0 (by omega) (by omega), Bool.or_true]
  rfl
theorem src_range {r : Addr} {n : Nat} {a b c : Tok} (hh : A.handled = none) (hn : n ≤ 1099511627776) (hr : IsRange h r 0 n 1 a b c) : Src prog w A g h (.ref r) n (fun i v => ∃ t, v = .int (i : Int) t) := fun gs dr t os E Q q => by
  refine wpAny_pyIter_range hr (small0 hn) ?_
  rw [rangeSize0]
  have W := LCg.range_walks (prog := prog) (w := w) (A := A) (I := h.objs.size) hh 0 n
  simp only [Int.zero_add] at W
  refine q _ _ _ _ _ _ W ?_ (fun i h st => ⟨_, st⟩) (fun b hb => by simpa using hb) (fun b hb => .inl (by simpa using hb)) (fun b o e => Heap.get?_push_of_some _ e) (get_none_of (Nat.le_refl _))
  show Heap.get? _ _ = _
  rw [Heap.get?_push_size _ rfl]
  simp

/-- the goal behind a comprehension's source -/
def CompGoal (prog : Program) (w : World) (A : Around) (E : Value → Shared → Prop) (env : Env) (e : Expr) (scope : Scope) (use : Option (Value → Sem Unit)) (Q : Value → Shared → Prop) (x : Value) (s₁ : Shared) : Prop :=
  wpAny (model prog w) A (pyIter x) (fun it s₂ => wpAny (model prog w) A (newList []) (fun acc s₃ =>
      wpAny (model prog w) A (newFunctionEnv scope env.globals (clOf env scope.names []) [] env.qual none .none (some env)) (fun cenv s₄ =>
        codeAny (model prog w) A (.compStart e 0 it acc { cenv with scope := relabel scope env }) (compPost (model prog w) A E use Q acc cenv.locals) s₄) E s₃) E s₂) E s₁

theorem comp_expr {s : Shared} {elt target iter : Expr} {ifs : List Expr} {scope : Scope} {pos : Pos} {Q : Value → Shared → Prop} (hok : compOk scope env = true)
    (h : wpAny (model prog w) A (eval iter env) (CompGoal prog w A E env (.ListComp elt [⟨target, iter, ifs, 0⟩] scope pos) scope none Q) E s)
    (hs : ∀ x, foldedSetIterable iter env x = pure x := by intro _; rfl) :
    wpAny (model prog w) A (eval (.ListComp elt [⟨target, iter, ifs, 0⟩] scope pos) env) Q E s := by
  rw [eval_ListComp]
  have hok' := hok
  simp only [compOk, Bool.and_eq_true, decide_eq_true_eq] at hok'
  obtain ⟨⟨⟨⟨⟨h1, h2⟩, h3⟩, h4⟩, h5⟩, h6⟩ := hok'
  refine wpAny_comprehension_free (use := none) rfl hs (closureFor_eq h1) (by simpa using h2) (fun y hy hl => ?_) h
  have := List.all_eq_true.mp h3 y hy
  simpa [hl] using this

theorem comp_assign {s : Shared} {elt target iter : Expr} {ifs : List Expr} {scope : Scope} {pos spos : Pos} {y : Str} {py : Pos} {Q : Flow → Shared → Prop} (hok : compOk scope env = true)
    (hsw : swapsWith (.ListComp elt [⟨target, iter, ifs, 0⟩] scope pos) (some (.Name y py)) spos.line env = pure true)
    (h : wpAny (model prog w) A (eval iter env) (CompGoal prog w A E env (.ListComp elt [⟨target, iter, ifs, 0⟩] scope pos) scope (some (assign (.Name y py) env)) (fun _ s' => Q .next s')) E s)
    (hs : ∀ x, foldedSetIterable iter env x = pure x := by intro _; rfl) :
    wpAny (model prog w) A (exec (.Assign [.Name y py] (.ListComp elt [⟨target, iter, ifs, 0⟩] scope pos) spos) env) Q E s := by
  rw [exec_Assign_Name_used _ _ _ _ hsw]
  have hok' := hok
  simp only [compOk, Bool.and_eq_true, decide_eq_true_eq] at hok'
  obtain ⟨⟨⟨⟨⟨h1, h2⟩, h3⟩, h4⟩, h5⟩, h6⟩ := hok'
  refine wpAny_bind (wpAny_standAt (wpAny_bind ?_))
  show wpAny _ A (do let _ ← comprehension (.ListComp elt [⟨target, iter, ifs, 0⟩] scope pos) scope env _ (newList []) false (eval iter env) (some (assign (.Name y py) env))) _ _ s
  refine wpAny_bind (wpAny_mono (wpAny_comprehension_free (use := some (assign (.Name y py) env)) (Q := fun _ s' => Q .next s') rfl hs (closureFor_eq h1) (by simpa using h2) (fun z hz hl => ?_) h) (fun _ _ q => wpAny_pure (wpAny_pure q)) fun _ _ e => e)
  have := List.all_eq_true.mp h3 z hz
  simpa [hl] using this

/-- a comprehension's run, its value handed on -/
theorem comp_k {elt iter : Expr} {x : Str} {px : Pos} {ifs : List Expr} {scope : Scope} {pos : Pos} {Q : Value → Shared → Prop} {xv : Value} {n : Nat} {P : Nat → Value → Prop} (hok : compOk scope env = true)
    (hx : ∀ C, (isLocal (cenvOf scope env C) x || isCellN (cenvOf scope env C) x) = true) (hxc : (clOf env scope.names []).lookup x = none) (X : Ex w env m g h) (S : Src prog w A g h xv n P) (hsz : n ≤ sizeLine)
    {wrs : Addr → Prop} (hwrs : ∀ b, wrs b → ¬ Own env b ∧ (∃ o, h.get? b = some o) ∧ g.get? b = none)
    {Ms : Nat → Heap → Prop} (hM0 : Ms 0 h) (hMs : ∀ i h h', Ms i h → (∀ b o, wrs b → h.get? b = some o → h'.get? b = some o) → Ms i h')
    {Y : Nat → Heap → Value → Prop} (hY : ∀ i g g' y, Y i g y → Sub g g' → Y i g' y) {p : Nat → Bool}
    (T : Turn prog w A env g h gs dr os m scope x elt ifs n P wrs Ms Y p)
    (hQ : ∀ D g' h' t' ys, h.get? D = none → Grow wrs g h g' h' → Lst g' D ys → ys.length ≤ n → Paired (fun i y => Y i g' y) ((List.range n).filter p) ys → Ms n h' → Q (.ref D) ⟨h', gs, dr, t', os⟩) :
    CompGoal prog w A E env (.ListComp elt [⟨.Name x px, iter, ifs, 0⟩] scope pos) scope none Q xv ⟨h, gs, dr, t, os⟩ := by
  refine S _ _ _ _ _ _ fun I fp wr St h₂ t₂ Wk st hSI hwr hfp up hI => ?_
  refine comp_block (hp := h) (RR := fun acc C => compPost (model prog w) A E none Q acc C) Wk hsz hok hx hxc X up hI st hSI hwr hfp hwrs hM0 hMs hY T ?_
  intro D C g' h' t' ys m' hD hC hDC hn gr gC gD hl hlen hP hM
  refine ⟨m', hn, fun h'' hs'' => ?_⟩
  have k : ∀ b o, b ≠ C → h'.get? b = some o → h''.get? b = some o := fun b o hb e => hs''.extBut b o hb e
  have sub'' : Sub g' h'' := fun b o e => k b o (fun q => by rw [q, gC] at e; cases e) (gr.sub b o e)
  obtain ⟨nD, eD⟩ := hl
  have eD' := k D _ hDC eD
  have gr1 : Grow wrs g h g' h'' := ⟨gr.le, sub'', gr.new, fun b o nb e => k b o (fun q => by rw [q, hC] at e; cases e) (gr.keep b o nb e), fun b e => by
    by_cases hb : b = C
    · rw [hb]; exact hC
    · refine gr.dom b ?_
      cases q : h'.get? b with
      | none => rfl
      | some o => rw [k b o hb q] at e; cases e⟩
  have gr2 := gr1.freeze (fun b => b = D) fun b q => q ▸ hD
  have le2 : Sub g' (plus g' h'' fun b => b = D) := plus_le sub''
  exact hQ D _ h'' t' ys hD gr2 ⟨nD, plus_at rfl eD'⟩ hlen (Paired.map hP fun i y q => hY i _ _ y q le2) (hMs _ _ _ hM fun b o hb e => k b o (fun q => by obtain ⟨_, ⟨o', e'⟩, _⟩ := hwrs b hb; rw [q, hC] at e'; cases e') e)

/-- a comprehension's run, its value bound to a name of the frame's -/
theorem comp_ka {elt iter : Expr} {x y : Str} {px py : Pos} {ifs : List Expr} {scope : Scope} {pos : Pos} {Q : Value → Shared → Prop} {xv : Value} {n : Nat} {P : Nat → Value → Prop} (hok : compOk scope env = true)
    (hx : ∀ C, (isLocal (cenvOf scope env C) x || isCellN (cenvOf scope env C) x) = true) (hxc : (clOf env scope.names []).lookup x = none) (hy : (isLocal env y || isCellN env y) = true) (X : Ex w env m g h) (S : Src prog w A g h xv n P) (hsz : n ≤ sizeLine)
    {wrs : Addr → Prop} (hwrs : ∀ b, wrs b → ¬ Own env b ∧ (∃ o, h.get? b = some o) ∧ g.get? b = none)
    {Ms : Nat → Heap → Prop} (hM0 : Ms 0 h) (hMs : ∀ i h h', Ms i h → (∀ b o, wrs b → h.get? b = some o → h'.get? b = some o) → Ms i h')
    {Y : Nat → Heap → Value → Prop} (hY : ∀ i g g' y, Y i g y → Sub g g' → Y i g' y) {p : Nat → Bool}
    (T : Turn prog w A env g h gs dr os m scope x elt ifs n P wrs Ms Y p)
    (hQ : ∀ D g' h₁ h' t' ys a, h.get? D = none → Grow wrs g h g' h₁ → Lst g' D ys → ys.length ≤ n → Paired (fun i y => Y i g' y) ((List.range n).filter p) ys → Ms n h' → Vars env h' (upd m y (.ref D)) → (a = env.locals ∨ env.cells.lookup y = some a) → Heap.ExtBut a h₁ h' → Q .none ⟨h', gs, dr, t', os⟩) :
    CompGoal prog w A E env (.ListComp elt [⟨.Name x px, iter, ifs, 0⟩] scope pos) scope (some (assign (.Name y py) env)) Q xv ⟨h, gs, dr, t, os⟩ := by
  refine S _ _ _ _ _ _ fun I fp wr St h₂ t₂ Wk st hSI hwr hfp up hI => ?_
  refine comp_block (hp := h) (RR := fun acc C => compPost (model prog w) A E (some (assign (.Name y py) env)) Q acc C) Wk hsz hok hx hxc X up hI st hSI hwr hfp hwrs hM0 hMs hY T ?_
  intro D C g' h' t' ys m' hD hC hDC hn gr gC gD hl hlen hP hM
  have gr2 := gr.freeze (fun b => b = D) fun b q => q ▸ hD
  have le2 : Sub g' (plus g' h' fun b => b = D) := plus_le gr.sub
  obtain ⟨nD, eD⟩ := hl
  have X2 := X.step gr2 fun b q => (hwrs b q).1
  refine wpAny_assign_Name (store_any X2.V hy fun h₃ t₃ a V₃ ha hs₃ => ?_)
  have hCa : C ≠ a := fun q => by obtain ⟨o, e⟩ := X.V.there (own_of ha); rw [← q, hC] at e; cases e
  refine ⟨m', hn.sameBut hs₃ hCa, fun h'' hs'' => ?_⟩
  have V4 : Vars env h'' (upd m y (.ref D)) := V₃.mono fun b o ob e => hs''.extBut b o (fun q => by obtain ⟨o', e'⟩ := X.V.there ob; rw [q, hC] at e'; cases e') e
  -- the heap as if C had been changed first
  have k : ∀ b o, b ≠ C → b ≠ a → h'.get? b = some o → h''.get? b = some o := fun b o hb hba e => hs''.extBut b o hb (hs₃.extBut b o hba e)
  have gr3 : Grow wrs g h (plus g' h' fun b => b = D) (only h' fun b => b ≠ C) := ⟨gr2.le, fun b o e => only_get.mpr ⟨fun q => by
      rcases plus_new gr.sub b o e with e | e
      · rw [q, gC] at e; cases e
      · exact hDC (e ▸ q), gr2.sub b o e⟩, gr2.new, fun b o nb e => only_get.mpr ⟨(fun q => by rw [q, hC] at e; cases e), gr2.keep b o nb e⟩, fun b e => by
    by_cases hb : b = C
    · rw [hb]; exact hC
    · refine gr2.dom b ?_
      cases q : h'.get? b with
      | none => rfl
      | some o => rw [only_get.mpr ⟨hb, q⟩] at e; cases e⟩
  refine hQ D _ (only h' fun b => b ≠ C) h'' t₃ ys a hD gr3 ⟨nD, plus_at rfl eD⟩ hlen (Paired.map hP fun i y q => hY i _ _ y q le2) (hMs _ _ _ hM fun b o hb e => ?_) V4 ha fun b o hb e => ?_
  · obtain ⟨ho, ⟨o', e'⟩, _⟩ := hwrs b hb
    exact k b o (fun q => by rw [q, hC] at e'; cases e') (fun q => ho (q ▸ own_of ha)) e
  · obtain ⟨h1, h2⟩ := only_get.mp e
    exact k b o h1 hb h2
end
end
section
set_option maxRecDepth 100000
open PySem PySem.W PySem.Calls PyProof.Rows
section
variable {prog : Program} {w : World} {A : Around} {E : Value → Shared → Prop} {env : Env} {g h g₀ h₀ : Heap} {gs : Array GenState} {dr : Drawn} {t : Nat} {os : OsState} {m : Str → Option Value} {wr : Addr → Prop} {μ : List (Addr × Obj)}

/-! ## for -/
def ForGoal (prog : Program) (w : World) (A : Around) (E : Value → Shared → Prop) (env : Env) (target : Expr) (body : List Stmt) (Q : Flow → Shared → Prop) (xv : Value) (s₁ : Shared) : Prop :=
  wpAny (model prog w) A (pyIter xv) (fun it s₂ => codeAny (model prog w) A (.forLoop target it body [] env) (fun r s' => match r with | .ok f => Q f s' | .error e => cameBackBy (model prog w) A env E e s') s₂) E s₁

theorem for_stmt {s : Shared} {target iter : Expr} {body : List Stmt} {pos : Pos} {Q : Flow → Shared → Prop} (h : wpAny (model prog w) A (eval iter env) (ForGoal prog w A E env target body Q) E s)
    (hs : ∀ x, foldedSetIterable iter env x = pure x := by intro _; rfl) : wpAny (model prog w) A (exec (.For target iter body [] pos) env) Q E s := wpAny_For h hs

/-- what leaves the loop by a raise -/
def ForErr (prog : Program) (w : World) (A : Around) (E : Value → Shared → Prop) (env : Env) : Value → Shared → Prop := notedBy (model prog w) A env (fun e s' => cameBackBy (model prog w) A env E e s')

/-- a for by its invariant: the number of turns made, the frame's ledger, its names, what is frozen -/
theorem for_k {x : Str} {px : Pos} {body : List Stmt} {xv : Value} {n : Nat} {P : Nat → Value → Prop} {Q : Flow → Shared → Prop} (hx : (isLocal env x || isCellN env x) = true) (F : Fn w wr g₀ h₀ env μ m g h) (S : Src prog w A g h xv n P)
    (Inv : Nat → List (Addr × Obj) → (Str → Option Value) → Heap → Prop) (h0 : Inv 0 μ m g)
    (turn : ∀ i p μ' m' g' h' t' v, i < n → P i v → Inv i μ' m' g' → Fn w wr g₀ h₀ env (p :: μ') (upd m' x v) g' h' → Sub g g' →
      wpAny (model prog w) A (execs body env) (fun f s' => match f with
        | .next | .cont => ∃ μ'' m'' g'' h'' t'', s' = ⟨h'', gs, dr, t'', os⟩ ∧ Fn w wr g₀ h₀ env (p :: μ'') m'' g'' h'' ∧ Sub g' g'' ∧ Inv (i + 1) μ'' m'' g''
        | .brk => Q .next s'
        | .ret u => Q (.ret u) s') (ForErr prog w A E env) ⟨h', gs, dr, t', os⟩)
    (done : ∀ μ' m' g' h' t', Fn w wr g₀ h₀ env μ' m' g' h' → Sub g g' → Inv n μ' m' g' → Q .next ⟨h', gs, dr, t', os⟩) :
    ForGoal prog w A E env (.Name x px) body Q xv ⟨h, gs, dr, t, os⟩ := by
  refine S _ _ _ _ _ _ fun I fp wrI St h₂ t₂ Wk st hSI hwr hfp up hI => ?_
  obtain ⟨oI, eI⟩ := hSI 0 h₂ st
  refine codeAny_forLoop_any (fun k s' => ∃ H tk i o μ' m' g', s' = ⟨H, gs, dr, tk, os⟩ ∧ St i H ∧ Fn w wr g₀ h₀ env ((I, o) :: μ') m' g' H ∧ Sub g g' ∧ Inv i μ' m' g' ∧ i ≤ n ∧ k = n + 1 - i) ?_ (n + 1)
    ⟨h₂, t₂, 0, oI, μ, m, g, rfl, st, F.push hI up eI, Sub.refl, h0, Nat.zero_le _, rfl⟩
  rintro k s' ⟨H, tk, i, o, μ', m', g', rfl, st', F', le', hi', hi, rfl⟩
  by_cases hlt : i < n
  · refine Wk.item i _ _ _ hlt st' fun v h₁ tk₁ hPv st₁ hk₁ => ?_
    obtain ⟨o₁, e₁⟩ := hSI _ _ st₁
    have ext₁ : Heap.ExtBut I H h₁ := fun b ob hb e => hk₁ b ob (fun q => hb (hwr b q)) e
    have F₁ := F'.mut1 ext₁ e₁
    show wpAny (model prog w) A (pure ()) _ _ _
    refine wpAny_pure ?_
    refine wpAny_assign_Name (store_any F₁.V hx fun h₃ t₃ a V₃ ha hs₃ => ?_)
    have F₃ := F₁.store V₃ ha hs₃.extBut
    have st₃ : St (i + 1) h₃ := Wk.frame _ _ _ st₁ fun b hb ob e => hs₃.extBut b ob (fun q => by
      rcases hfp b hb with q2 | ⟨o', q2⟩
      · exact (F₁.led _ (.head _)).2.2.2 (q2 ▸ q ▸ own_of ha)
      · have := F₁.out a (own_of ha); rw [← q, le' b o' q2] at this; cases this) e
    refine wpAny_mono (turn i (I, o₁) μ' m' g' h₃ t₃ v hlt hPv hi' F₃ le') (fun f s₄ hf => ?_) fun _ _ e => e
    have nx : (∃ μ'' m'' g'' h'' t'', s₄ = ⟨h'', gs, dr, t'', os⟩ ∧ Fn w wr g₀ h₀ env ((I, o₁) :: μ'') m'' g'' h'' ∧ Sub g' g'' ∧ Inv (i + 1) μ'' m'' g'') → ∃ k', k' < n + 1 - i ∧ ∃ H tk i o μ' m' g', s₄ = ⟨H, gs, dr, tk, os⟩ ∧ St i H ∧ Fn w wr g₀ h₀ env ((I, o) :: μ') m' g' H ∧ Sub g g' ∧ Inv i μ' m' g' ∧ i ≤ n ∧ k' = n + 1 - i := by
      rintro ⟨μ'', m'', g'', h'', t'', rfl, F₄, le4, i4⟩
      refine ⟨n + 1 - (i + 1), by omega, h'', t'', i + 1, o₁, μ'', m'', g'', rfl, Wk.frame _ _ _ st₃ fun b hb ob e => ?_, F₄, le'.trans le4, i4, hlt, rfl⟩
      rcases hfp b hb with q | ⟨o', q⟩
      · rw [q, (F₃.led _ (.head _)).1] at e; cases e; rw [q]; exact (F₄.led _ (.head _)).1
      · have e1 := F₃.sub b o' (le' b o' q)
        rw [e] at e1; cases e1
        exact F₄.sub b ob (le4 b ob (le' b ob q))
    cases f with
    | next => exact nx hf
    | cont => exact nx hf
    | brk => exact hf
    | ret u => exact hf
  · obtain rfl : i = n := Nat.le_antisymm hi (Nat.not_lt.mp hlt)
    refine Wk.done _ _ _ st' fun h₁ tk₁ hk₁ => ?_
    have ext₁ : Heap.ExtBut I H h₁ := fun b ob hb e => hk₁ b ob (fun q => hb (hwr b q)) e
    show wpAny (model prog w) A (execs [] env) _ _ _
    refine wpAny_execs_nil ?_
    obtain ⟨e1, e2, e3, e4⟩ := F'.led _ (.head _)
    have hd := F'.dis
    rw [List.map_cons, List.nodup_cons] at hd
    exact done μ' m' g' h₁ tk₁ (F'.drop.mut ext₁ e3 e2 (F'.V.mono fun b ob oo e => ext₁ b ob (fun q => e4 (q ▸ oo)) e) (fun p hp => .inr ⟨fun q => hd.1 (q ▸ (List.mem_map_of_mem (f := (·.1)) hp : p.1 ∈ _)), hp⟩) hd.2) le' hi'

/-! ## the call of a def -/
def bindM (binds : List (Str × Value)) : Str → Option Value := fun y => binds.reverse.lookup y
def frameOk (scope : Scope) (binds : List (Str × Value)) : Bool :=
  (binds.all fun y => scope.names.lookup y.1 == some .local || scope.names.lookup y.1 == some .cell) &&
  ((cellsFrom 0 scope.names []).all fun y => scope.names.lookup y.1 == some .cell) && (((cellsFrom 0 scope.names []).map (·.1)).Nodup : Bool) &&
  !scope.isCoroutine && !scope.isGenerator && scope.kind == .function

theorem bindLC {kindOf : Str → Option NameKind} : ∀ (binds : List (Str × Value)) (m : Str → Option Value), (∀ y ∈ binds, kindOf y.1 = some .local ∨ kindOf y.1 = some .cell) →
    (∀ y, kindOf y = some .local → bindL kindOf binds m y = (binds.reverse.lookup y).or (m y)) ∧ (∀ y, kindOf y = some .cell → bindC kindOf binds m y = (binds.reverse.lookup y).or (m y))
  | [], m, _ => ⟨fun y _ => by simp [bindL], fun y _ => by simp [bindC]⟩
  | (n, v) :: r, m, h => by
    have hr : ∀ y ∈ r, kindOf y.1 = some .local ∨ kindOf y.1 = some .cell := fun y hy => h y (.tail _ hy)
    unfold bindL bindC
    refine ⟨fun y hy => ?_, fun y hy => ?_⟩
    · rw [(bindLC r _ hr).1 y hy, List.reverse_cons, List.lookup_append, Option.or_assoc]
      congr 1
      by_cases hn : kindOf n = some .local
      · rw [if_pos hn, List.lookup_cons, List.lookup_nil]
        by_cases e : y = n
        · subst e; simp
        · have : (y == n) = false := by simpa using e
          simp [e, this]
      · rw [if_neg hn, List.lookup_cons, List.lookup_nil]
        have : (y == n) = false := by rw [beq_eq_false_iff_ne]; rintro rfl; exact hn hy
        simp [this]
    · rw [(bindLC r _ hr).2 y hy, List.reverse_cons, List.lookup_append, Option.or_assoc]
      congr 1
      by_cases hn : kindOf n = some .local
      · rw [if_pos hn, List.lookup_cons, List.lookup_nil]
        have : (y == n) = false := by rw [beq_eq_false_iff_ne]; rintro rfl; rw [hy] at hn; cases hn
        simp [this]
      · rw [if_neg hn, List.lookup_cons, List.lookup_nil]
        by_cases e : y = n
        · subst e; simp
        · have : (y == n) = false := by simpa using e
          simp [e, this]

theorem call_fn {f : Addr} {fd : FuncData} {vals : List Value} {binds : List (Str × Value)} {body : List Stmt} {oc : Value} {od : Option Addr} {osl : Array (Option Value)} {R : Result → Shared → Prop} (sub : Sub g h) (W : Wd w g) (hroom : A.depth < recursionLimit)
    (ho : (KP w).lookup f = some ⟨oc, od, .func fd, osl⟩) (hb : fd.body = .stmts body) (hcode : codeIn (KP w) fd.code fd.qualname = true) (hclo : fd.closure = []) (hgl : fd.globals = mainGlobals) (hbl : fd.builtins = builtinsNs)
    (hbind : BindsTo ⟨h, gs, dr, t, os⟩ fd ⟨vals, []⟩ binds) (hok : frameOk fd.scope binds = true) (hwr : ∀ b, wr b → (∃ o, h.get? b = some o) ∧ g.get? b = none)
    (H : ∀ L h₁ t₁, Sub h h₁ → Fn w wr g h (callEnvC fd L f) [] (bindM binds) g h₁ → wpAny (model prog w) (A.deeper (callEnvC fd L f)) (execs body (callEnvC fd L f)) (fun fl s' => R (.ok (.ret (match fl with | .ret v => v | _ => .none))) s')
        (fun e s' => wpAny (model prog w) (A.deeper (callEnvC fd L f)) (leaving (callEnvC fd L f) e) (fun _ s'' => R (.error e) s'') (fun e' s'' => R (.error e') s'') s') ⟨h₁, gs, dr, t₁, os⟩) :
    codeAny (model prog w) A (.call (.ref f) ⟨vals, []⟩) R ⟨h, gs, dr, t, os⟩ := by
  simp only [frameOk, Bool.and_eq_true, decide_eq_true_eq, Bool.not_eq_true', beq_iff_eq] at hok
  obtain ⟨⟨⟨⟨⟨h1, h2⟩, h3⟩, h4⟩, h5⟩, h6⟩ := hok
  have Wh := W.mono sub
  refine codeAny_call_function hroom (Wh.K _ _ ho) rfl h4 h5 hb (codeRec_of Wh.K hcode) (hbind _ _ _ _ ?_)
  rw [hclo]
  have hk0 : ∀ x ∈ binds, fd.scope.names.lookup x.1 = some .local ∨ (fd.scope.names.lookup x.1 = some .cell ∧ ((cellsFrom (h.objs.size + 1) fd.scope.names []).lookup x.1).isSome = true) := kindsX h1 _
  refine wpAny_newFunctionEnv_cells h6 hk0 fun env' he s' x => ?_
  subst he
  obtain ⟨h₁, tk, rfl, _⟩ := x.done
  refine ⟨Wh.nolimit.keeps x.toInCall.keep, codeAny_func ?_⟩
  have k := x.toInCall.keep
  have hfr := x.toInCall.fresh
  have hkinds : ∀ y ∈ binds, (callEnvC fd h.objs.size f).kindOf y.1 = some .local ∨ (callEnvC fd h.objs.size f).kindOf y.1 = some .cell := fun y hy => (hk0 y hy).imp id fun q => q.1
  have hB := bindLC (kindOf := (callEnvC fd h.objs.size f).kindOf) binds (fun _ => none) hkinds
  have hcells : ∀ y c, (cellsFrom (h.objs.size + 1) fd.scope.names []).lookup y = some c → fd.scope.names.lookup y = some .cell := fun y c hc => by
    have e := cellsFrom_names fd.scope.names 0 (h.objs.size + 1) [] [] rfl
    have : y ∈ (cellsFrom 0 fd.scope.names []).map (·.1) := by rw [e]; exact List.mem_map_of_mem (f := (·.1)) (mem_of_lookup hc)
    obtain ⟨z, hz, rfl⟩ := List.mem_map.mp this
    simpa using List.all_eq_true.mp h2 z hz
  have V : Vars (callEnvC fd h.objs.size f) h₁ (bindM binds) := by
    refine ⟨h6, ⟨_, x.toInCall.ns, fun y hy => ?_⟩, fun y c hc => ?_, x.apart, fun n c hm => Nat.ne_of_lt (x.above n c hm), hgl, hbl, fun y c hc => ?_⟩
    · exact (hB.1 y hy).trans (by simp [bindM])
    · have h7 := x.cell y c hc
      have h8 := hB.2 y (hcells y c hc)
      have h9 : bindC (callEnvC fd h.objs.size f).kindOf binds (fun _ => none) y = bindM binds y := h8.trans (by simp [bindM])
      rw [← h9]; exact h7
    · intro q
      have := hcells y c hc
      have q' : fd.scope.names.lookup y = some .local := q
      rw [this] at q'; cases q'
  have hO : ∀ b, Own (callEnvC fd h.objs.size f) b → h.objs.size ≤ b := fun b ob => by
    rcases ob with rfl | ⟨y, e⟩
    · exact hfr
    · exact Nat.le_of_lt (Nat.lt_of_le_of_lt hfr (x.above y b (mem_of_lookup e)))
  have hOn : ∀ b, Own (callEnvC fd h.objs.size f) b → h.get? b = none := fun b ob => get_none_of (hO b ob)
  refine H h.objs.size h₁ tk k ⟨⟨V, sub.trans k, fun b ob => ?_, W⟩, (Grow.mk0 Sub.refl (sub.trans k) (fun _ _ e => .inl e) k).of0, hOn, fun b q => (hwr b q).1, (fun p hp => by cases hp), List.nodup_nil⟩
  cases e : g.get? b with
  | none => rfl
  | some o => have := sub b o e; rw [hOn b ob] at this; cases this
end
end
section
set_option maxRecDepth 100000
open PySem PySem.W PySem.Calls PyProof.Rows
open PySem.SeqAt (EqAt RcAt)
/-! ## flat values -/
def er : Value → Value
  | .int i _ => .int i 0
  | .str s _ => .str s 0
  | v => v
def flat : Value → Bool
  | .none => true
  | .int .. => true
  | .str .. => true
  | _ => false

theorem er_int {v : Value} {i : Int} (h : er v = .int i 0) : ∃ t, v = .int i t := by
  cases v <;> simp [er] at h
  exact ⟨_, by rw [h]⟩
theorem er_str {v : Value} {x : Str} (h : er v = .str x 0) : ∃ t, v = .str x t := by
  cases v <;> simp [er] at h
  exact ⟨_, by rw [h]⟩
theorem er_none {v : Value} (h : er v = .none) : v = .none := by
  cases v <;> simp [er] at h
  rfl

theorem eqAt_flat {A : Around} {s : Shared} {y x : Value} (hy : flat y = true) (hx : flat x = true) : EqAt A s y x (er y == er x) := by
  cases y <;> simp only [flat, Bool.false_eq_true] at hy <;> cases x <;> simp only [flat, Bool.false_eq_true] at hx
  · exact EqAt.same _
  · exact EqAt.none_int _ _
  · exact EqAt.none_str _ _
  · exact EqAt.int_none _ _
  · rename_i a _ b _
    have : (Value.int a 0 == Value.int b 0) = (a == b) := by
      rw [Bool.eq_iff_iff]; simp
    simp only [er]; rw [this]; exact EqAt.int_int _ _ _ _
  · exact EqAt.int_str _ _ _ _
  · exact EqAt.str_none _ _
  · exact EqAt.str_int _ _ _ _
  · rename_i a _ b _
    have : (Value.str a 0 == Value.str b 0) = (a == b) := by
      rw [Bool.eq_iff_iff]; simp
    simp only [er]; rw [this]; exact EqAt.str_str _ _ _ _

section
variable {prog : Program} {w : World} {A : Around} {E : Value → Shared → Prop} {env : Env} {g h : Heap} {gs : Array GenState} {dr : Drawn} {t : Nat} {os : OsState} {m : Str → Option Value}

/-! ## names, by the expression's context -/
theorem x_loc {x : Str} {pos : Pos} {v : Value} {Q : Value → Shared → Prop} {M : Model} (X : Ex w env m g h) (hx : isLocal env x = true) (hm : m x = some v) (q : Q v ⟨h, gs, dr, t, os⟩) :
    wpAny M A (eval (.Name x pos) env) Q E ⟨h, gs, dr, t, os⟩ := ev_loc X.V hx hm q
theorem x_cell {x : Str} {pos : Pos} {v : Value} {Q : Value → Shared → Prop} {M : Model} (X : Ex w env m g h) (hx : isCellN env x = true) (hm : m x = some v) (q : Q v ⟨h, gs, dr, t, os⟩) :
    wpAny M A (eval (.Name x pos) env) Q E ⟨h, gs, dr, t, os⟩ := ev_cell X.V hx hm q
theorem x_glob {x : Str} {pos : Pos} {v : Value} {Q : Value → Shared → Prop} {M : Model} (X : Ex w env m g h) (hx : isGlob env x = true) (e : nsIn (KP w) mainGlobals x = some (some v)) (q : Q v ⟨h, gs, dr, t, os⟩) :
    wpAny M A (eval (.Name x pos) env) Q E ⟨h, gs, dr, t, os⟩ := ev_glob X.V X.Wh hx e q
theorem x_blt {x : Str} {pos : Pos} {v : Value} {Q : Value → Shared → Prop} {M : Model} (X : Ex w env m g h) (hx : isGlob env x = true) (e : nsIn (KP w) mainGlobals x = some none) (hv : bootBuiltins x = some v) (hn : x ≠ "__name__") (q : Q v ⟨h, gs, dr, t, os⟩) :
    wpAny M A (eval (.Name x pos) env) Q E ⟨h, gs, dr, t, os⟩ := ev_blt X.V X.Wh hx e hv hn q

/-! ## calls by name, arguments by place -/
inductive Kept (w : World) (f : Value) (h : Heap) : Prop
  | other (q : ∀ a, f ≠ .ref a) : Kept w f h
  | top (q : keepIn (KP w) f = true) (X : (KP w).In h) : Kept w f h
theorem kept_looks {f : Value} {h : Heap} (k : Kept w f h) : ∃ k, (k = Keeper.frame ∨ k = Keeper.machine ∨ k = Keeper.boundFrame) ∧ Looks (model prog w) h (keeperOf f) k := by
  rcases k with k | ⟨k, X⟩
  · refine ⟨.machine, .inr (.inl rfl), ?_⟩
    cases f <;> first | exact Looks.of_pure rfl | exact absurd rfl (k _)
  · exact keeps_K k h X

theorem call_name {s : Shared} {x : Str} {np pos : Pos} {e : Expr} {rest : List Expr} {Q : Value → Shared → Prop}
    (h : wpAny (model prog w) A (eval (.Name x np) env) (fun f s₁ => wpAny (model prog w) A (spliced (backTo pos (starEach (e :: rest) env))) (fun vs s₂ => Kept w f s₂.heap ∧ wpAny (model prog w) A (call f vs) Q E s₂) E s₁) E s)
    (he : starEach (e :: rest) env = (false, eval e env) :: starEach rest env := by rfl) (hplain : (backTo pos (starEach rest env)).any (·.1) = false := by rfl) :
    wpAny (model prog w) A (eval (.Call (.Name x np) (e :: rest) [] pos) env) Q E s := by
  refine wpAny_Call_ofName (wpAny_mono h (fun f s₁ h₁ => ?_) fun _ _ z => z)
  rw [he] at h₁ ⊢
  exact callWith_of (P := fun h => Kept w f h) (by show ((false || (backTo pos (starEach rest env)).any (·.1)) || false) = false; rw [hplain]; rfl) (fun _ k => kept_looks k) (evalArgs_plain h₁)
theorem args_nil {s : Shared} {pos : Pos} {Q : List Value → Shared → Prop} {M : Model} (h : Q [] s) : wpAny M A (spliced (backTo pos (starEach [] env))) Q E s := wpAny_items_nil h
theorem args_cons {s : Shared} {pos : Pos} {e : Expr} {rest : List Expr} {Q : List Value → Shared → Prop} {M : Model}
    (h : wpAny M A (eval e env) (fun v s₁ => wpAny M A (spliced (backTo pos (starEach rest env))) (fun vs s₂ => Q (v :: vs) s₂) E s₁) E s)
    (he : starEach (e :: rest) env = (false, eval e env) :: starEach rest env := by rfl) : wpAny M A (spliced (backTo pos (starEach (e :: rest) env))) Q E s := wpAny_items_cons h he

/-! ## methods of the built-in types -/
def TyOk (T : String) (v : Value) (h : Heap) : Prop := ∃ a o, v = .ref a ∧ h.get? a = some o ∧ o.cls = .type T ∧ o.dict = none
theorem Lst.ty {a : Addr} {xs : List Value} (x : Lst h a xs) : TyOk "list" (.ref a) h := let ⟨_, e⟩ := x; ⟨a, _, rfl, e, rfl, rfl⟩
theorem Dct.ty {K : Type} [DecidableEq K] {knd : KeyKind prog w K} {a : Addr} {kvs : List (K × Value)} (x : h.DictOf knd a kvs) : TyOk "dict" (.ref a) h := let ⟨o, _, _, e, c, _⟩ := x; ⟨a, o, rfl, e, c.1, c.2.1⟩

theorem evalArgs_nil' {s : Shared} {M : Model} {f : Value} {Q : Args → Shared → Prop} (h : wpAny M A (spliced []) (fun vs s' => Q ⟨vs, []⟩ s') E s) : wpAny M A (evalArgs f true [] []) Q E s := by
  unfold evalArgs
  show wpAny M A (spliced [] >>= _) Q E s
  refine wpAny_bind (wpAny_mono h (fun vs s' h' => wpAny_bind (wpAny_pure ?_)) fun _ _ x => x)
  refine wpAny_holding ?_
  exact wpAny_bind (wpAny_pure (wpAny_bind (wpAny_pure (wpAny_pure h'))))
theorem call_meth_b {s : Shared} {o : Expr} {name : Str} {apos pos : Pos} {args : List Expr} {T id : String} {Q : Value → Shared → Prop} (pa : PlainAttrs T) (slot : Slot T name id) (hty : typeOf (.builtin id) = pure (.type "method_descriptor"))
    (h : wpAny (model prog w) A (eval o env) (fun ov s₁ => TyOk T ov s₁.heap ∧ wpAny (model prog w) A (spliced (backTo pos (starEach args env))) (fun vs s₂ => wpAny (model prog w) A (call (.builtin id) (ov :: vs)) Q E s₂) E s₁) E s)
    (hbase : attributeBase o name env (eval o env) = eval o env := by rfl)
    (hfew : ((backTo pos (starEach args env)).all (fun x => !x.1) && (backToKw pos (keywordEach [] env)).all (fun x => x.1.isSome) && decide (args.length + ([] : List Keyword).length + (if ([] : List Keyword).isEmpty then 0 else 1) < 30)) = true := by rfl)
    (hplain : (backTo pos (starEach args env)).any (·.1) = false := by rfl)
    (hline : (apos.endLine == pos.line) = true := by rfl) : wpAny (model prog w) A (eval (.Call (.Attribute o name apos) args [] pos) env) Q E s := by
  refine wpAny_Call_method_late hbase hfew hline rfl (wpAny_mono h (fun ov s₁ h₁ => ?_) fun _ _ z => z)
  obtain ⟨⟨a, ob, rfl, ha, hc, hd⟩, h₁⟩ := h₁
  refine ⟨T, id, pa, slot, hty, ⟨ob, ha, hc⟩, fun b e => by cases e; exact ⟨ob, ha, hd⟩, ?_⟩
  refine callWith_of (P := fun _ => True) (by rw [hplain]; rfl) (fun h' _ => ⟨.machine, .inr (.inl rfl), Looks.of_pure rfl⟩) ?_
  have key : wpAny (model prog w) A (spliced (backTo pos (starEach args env))) (fun vs s₂ => True ∧ wpAny (model prog w) A (call (.builtin id) ([.ref a] ++ vs)) Q E s₂) E s₁ := wpAny_mono h₁ (fun vs s₂ q => ⟨trivial, q⟩) fun _ _ z => z
  cases hb : backTo pos (starEach args env) with
  | nil => rw [hb] at key; exact evalArgs_nil' key
  | cons p r =>
    obtain ⟨b, x⟩ := p
    rw [hb] at key hplain
    cases b with
    | true => simp at hplain
    | false => exact evalArgs_plain key
end
end
section
set_option maxRecDepth 100000
open PySem PySem.W PySem.Calls PyProof.Rows
open PySem.SeqAt (EqAt RcAt)
/-! ## an object and its dict -/
def StrK (es : List DictEntry) : Prop := ∀ e ∈ es, ∃ n t, e.key = .str n t
theorem getL_of {es : List DictEntry} (k : StrK es) (name : Str) : getL name es = some ((es.find? (·.key.isStr name)).map (·.val)) := by
  unfold getL
  cases q : es.find? (·.key.isStr name) with
  | some e => rfl
  | none =>
    have : es.any (·.refKey) = false := by
      rw [List.any_eq_false]; intro e he; obtain ⟨n, t, h⟩ := k e he; simp [DictEntry.refKey, h]
    simp [this]
theorem strK_put {es : List DictEntry} (k : StrK es) (name : Str) (hs : Int) (tk : Tok) (v : Value) : StrK (putL name hs (.str name tk) v es) := by
  induction es with
  | nil => intro e he; simp [putL] at he; exact ⟨name, tk, by rw [he]⟩
  | cons a r ih =>
    intro e he
    unfold putL at he
    split at he
    · rcases List.mem_cons.mp he with rfl | he
      · exact k a (.head _)
      · exact k e (.tail _ he)
    · rcases List.mem_cons.mp he with rfl | he
      · exact k _ (.head _)
      · exact ih (fun e he => k e (.tail _ he)) e he
theorem find_put {es : List DictEntry} (k : StrK es) (name y : Str) (hs : Int) (tk : Tok) (v : Value) :
    ((putL name hs (.str name tk) v es).find? (·.key.isStr y)).map (·.val) = if y = name then some v else (es.find? (·.key.isStr y)).map (·.val) := by
  induction es with
  | nil =>
    by_cases h : y = name
    · subst h; simp [putL, Value.isStr]
    · have : (name == y) = false := by simpa using fun e : name = y => h e.symm
      simp [putL, Value.isStr, h, this]
  | cons a r ih =>
    have ih := ih fun e he => k e (.tail _ he)
    unfold putL
    by_cases ha : a.key.isStr name = true
    · rw [if_pos ha, List.find?_cons, List.find?_cons]
      by_cases h : y = name
      · subst h; simp [ha]
      · have : a.key.isStr y = false := by
          cases q : a.key.isStr y with
          | false => rfl
          | true => exact absurd (Value.isStr_inj _ _ _ q ha) h
        simp [this, h]
    · rw [if_neg ha, List.find?_cons, List.find?_cons]
      by_cases h2 : a.key.isStr y = true
      · have : y ≠ name := by rintro rfl; exact ha h2
        simp [h2, this]
      · simp only [Bool.not_eq_true] at h2
        simp only [h2]; exact ih
theorem getL_put {es : List DictEntry} (k : StrK es) (name y : Str) (hs : Int) (tk : Tok) (v : Value) : getL y (putL name hs (.str name tk) v es) = if y = name then some (some v) else getL y es := by
  rw [getL_of (strK_put k _ _ _ _), getL_of k, find_put k]
  split <;> rfl
theorem putL_len (name : Str) (hs : Int) (key v : Value) : ∀ es : List DictEntry, (putL name hs key v es).length ≤ es.length + 1
  | [] => by simp [putL]
  | a :: r => by unfold putL; split <;> simp; exact putL_len name hs key v r

/-- an object of class C at x, its dict at dx -/
structure InsAt (g : Heap) (x dx C : Addr) (es : List DictEntry) (n : Nat) : Prop where
  ob : g.get? x = some (instObj C dx)
  di : g.get? dx = some (dictOf es n)
  ks : StrK es
theorem InsAt.up {g h : Heap} {x dx C : Addr} {es : List DictEntry} {n : Nat} (I : InsAt g x dx C es n) (s : Sub g h) : InsAt h x dx C es n := ⟨s _ _ I.ob, s _ _ I.di, I.ks⟩

section
variable {prog : Program} {w : World} {A : Around} {E : Value → Shared → Prop} {env : Env} {g h : Heap} {gs : Array GenState} {dr : Drawn} {t : Nat} {os : OsState} {m : Str → Option Value}

theorem get_ins {x dx C : Addr} {es : List DictEntry} {n : Nat} {name : Str} {e : Bool} {v : Value} {Q : Value → Shared → Prop} (K : (KP w).In h) (I : InsAt h x dx C es n) (hg : plainGet (KP w) C name = true) (hh : hasDictIn (KP w) C = true)
    (ha : findIn (KP w) (.ref C) name = some none) (hl : getL name es = some (some v)) (hv : handedIn v = true) (q : Q v ⟨h, gs, dr, t + 1, os⟩) : wpAny (model prog w) A (getAttr (.ref x) name e) Q E ⟨h, gs, dr, t, os⟩ :=
  get_value (s := ⟨h, gs, dr, t, os⟩) (od := some (dictOf es n)) K ⟨I.ob, rfl, rfl, I.di⟩ (plainGet_of hg).1 (findObj_own hh ha rfl hl) hv q

theorem set_ins {x dx C : Addr} {es : List DictEntry} {n : Nat} {name : Str} {v : Value} {Q : Unit → Shared → Prop} (K : (KP w).In h) (I : InsAt h x dx C es n) (hs : findIn (KP w) (.ref C) "__setattr__" = some (some (.builtin "object.__setattr__"))) (hp : plainOver (KP w) C = true)
    (ht : takerIn (KP w) C name = some none) (hh : hasDictIn (KP w) C = true) (hz : es.length < 1000)
    (q : ∀ h' t' tk, Heap.SameBut dx h h' → InsAt h' x dx C (putL name (PyData.keyHash w.params name) (.str name tk) v es) (putN name es n) → Q () ⟨h', gs, dr, t', os⟩) : wpAny (model prog w) A (setAttr (.ref x) name v) Q E ⟨h, gs, dr, t, os⟩ := by
  have J : InstAt h x (instObj C dx) C (some (dictOf es n)) := ⟨I.ob, rfl, rfl, I.di⟩
  refine set_plain (s := ⟨h, gs, dr, t, os⟩) K J hs (osa_open (s := ⟨h, gs, dr, t + 1, os⟩) K J hp ht fun b => ?_)
  obtain ⟨cd, hc, hd'⟩ := any_some hh
  have e1 := putName_dict name (PyData.keyHash w.params name) (.str name (t + 1)) v es n
  have D' := Heap.get?_update_self (Obj.putName name (PyData.keyHash w.params name) (.str name (t + 1)) v) I.di (by rw [e1]; rfl)
  rw [e1] at D'
  have hxd : x ≠ dx := fun e => by have a := I.ob; have b := I.di; rw [e, b] at a; cases a
  refine wpAny_bind (wpAny_pure (wpAny_bind (wpAny_bind (wpAny_loadPart I.ob (wpAny_bind ((looks_clsIn K hc).here ?_))))))
  rw [hd']
  refine wpAny_pure (a := some dx) (wpAny_bind (wpAny_pure (wpAny_bind ?_)))
  unfold nsSet
  refine wpAny_bind (wpAny_bind (wpAny_askSetting (wpAny_pure (wpAny_bind (wpAny_mkText (wpAny_bind (wpAny_loadPart I.di ?_)))))))
  dsimp only
  have c : (!es.toArray.any (·.key.isStr name) && es.toArray.any (·.refKey)) = false := by
    have : es.toArray.any (·.refKey) = false := by
      rw [← Array.any_toList, List.any_eq_false]; intro e he; obtain ⟨n, t, h⟩ := I.ks e (by simpa using he); simp [DictEntry.refKey, h]
    rw [this, Bool.and_false]
  rw [aRefKeyMayBeTheName_at, c]
  refine wpAny_updatePart I.di ?_
  refine wpAny_bind (wpAny_lookBehind D' (pastItsLine_dict (by have := putL_len name (PyData.keyHash w.params name) (.str name (t + 1)) v es; rw [List.size_toArray, sizeLine_eq]; omega)) ?_)
  exact wpAny_pure (q _ _ _ (Heap.SameBut.update ..) ⟨(Heap.get?_update_other _ _ (Ne.symm hxd)).trans I.ob, D', strK_put I.ks _ _ _ _⟩)
end
end
section
set_option maxRecDepth 100000
open PySem PySem.W PySem.Calls PyProof.Rows
abbrev FnAt (w : World) (a : Addr) (fd : FuncData) : Prop := (KP w).lookup a = some ⟨.type "function", none, .func fd, #[]⟩
end
local macro_rules | `(tactic| walk_at "X") => `(tactic| first | assumption | exact Fn.toEx (by assumption))
local macro_rules | `(tactic| walk_at "W") => `(tactic| first | assumption | exact Ex.Wh (by assumption) | exact Ex.Wh (Fn.toEx (by assumption)))
section
set_option maxRecDepth 100000
open PySem PySem.W PySem.Calls PyProof.Rows
noncomputable def f28 (w : World) : {fd : FuncData // FnAt w 28 fd} := ⟨_, rfl⟩
noncomputable def f33 (w : World) : {fd : FuncData // FnAt w 33 fd} := ⟨_, rfl⟩
noncomputable def f40 (w : World) : {fd : FuncData // FnAt w 40 fd} := ⟨_, rfl⟩
noncomputable def f113 (w : World) : {fd : FuncData // FnAt w 113 fd} := ⟨_, rfl⟩
noncomputable def f120 (w : World) : {fd : FuncData // FnAt w 120 fd} := ⟨_, rfl⟩
noncomputable def f125 (w : World) : {fd : FuncData // FnAt w 125 fd} := ⟨_, rfl⟩
noncomputable def f132 (w : World) : {fd : FuncData // FnAt w 132 fd} := ⟨_, rfl⟩
noncomputable def f139 (w : World) : {fd : FuncData // FnAt w 139 fd} := ⟨_, rfl⟩
noncomputable def f146 (w : World) : {fd : FuncData // FnAt w 146 fd} := ⟨_, rfl⟩
noncomputable def f156 (w : World) : {fd : FuncData // FnAt w 156 fd} := ⟨_, rfl⟩
noncomputable def f161 (w : World) : {fd : FuncData // FnAt w 161 fd} := ⟨_, rfl⟩
noncomputable def f166 (w : World) : {fd : FuncData // FnAt w 166 fd} := ⟨_, rfl⟩
noncomputable def f173 (w : World) : {fd : FuncData // FnAt w 173 fd} := ⟨_, rfl⟩
noncomputable def f178 (w : World) : {fd : FuncData // FnAt w 178 fd} := ⟨_, rfl⟩
noncomputable def f183 (w : World) : {fd : FuncData // FnAt w 183 fd} := ⟨_, rfl⟩
noncomputable def f195 (w : World) : {fd : FuncData // FnAt w 195 fd} := ⟨_, rfl⟩
noncomputable def f202 (w : World) : {fd : FuncData // FnAt w 202 fd} := ⟨_, rfl⟩
noncomputable def f209 (w : World) : {fd : FuncData // FnAt w 209 fd} := ⟨_, rfl⟩
noncomputable def f214 (w : World) : {fd : FuncData // FnAt w 214 fd} := ⟨_, rfl⟩
noncomputable def f219 (w : World) : {fd : FuncData // FnAt w 219 fd} := ⟨_, rfl⟩
noncomputable def f224 (w : World) : {fd : FuncData // FnAt w 224 fd} := ⟨_, rfl⟩
noncomputable def f231 (w : World) : {fd : FuncData // FnAt w 231 fd} := ⟨_, rfl⟩
noncomputable def f236 (w : World) : {fd : FuncData // FnAt w 236 fd} := ⟨_, rfl⟩
noncomputable def f243 (w : World) : {fd : FuncData // FnAt w 243 fd} := ⟨_, rfl⟩
noncomputable def f248 (w : World) : {fd : FuncData // FnAt w 248 fd} := ⟨_, rfl⟩
noncomputable def f92 (w : World) : {fd : FuncData // FnAt w 92 fd} := ⟨_, rfl⟩
noncomputable def f72 (w : World) : {fd : FuncData // FnAt w 72 fd} := ⟨_, rfl⟩
section
variable {w : World} {M : Model} {A : Around} {E : Value → Shared → Prop} {env : Env} {g h : Heap} {gs : Array GenState} {dr : Drawn} {t : Nat} {os : OsState} {m : Str → Option Value}
theorem n_get_attr {pos : Pos} {Q : Value → Shared → Prop} (X : Ex w env m g h) (hx : isGlob env (Str.ofString "get_attr") = true) (q : Q (.ref 28) ⟨h, gs, dr, t, os⟩) : wpAny M A (eval (.Name (Str.ofString "get_attr") pos) env) Q E ⟨h, gs, dr, t, os⟩ := x_glob X hx (by kernel_rfl) q
theorem n_names_of {pos : Pos} {Q : Value → Shared → Prop} (X : Ex w env m g h) (hx : isGlob env (Str.ofString "names_of") = true) (q : Q (.ref 33) ⟨h, gs, dr, t, os⟩) : wpAny M A (eval (.Name (Str.ofString "names_of") pos) env) Q E ⟨h, gs, dr, t, os⟩ := x_glob X hx (by kernel_rfl) q
theorem n_dim_of {pos : Pos} {Q : Value → Shared → Prop} (X : Ex w env m g h) (hx : isGlob env (Str.ofString "dim_of") = true) (q : Q (.ref 40) ⟨h, gs, dr, t, os⟩) : wpAny M A (eval (.Name (Str.ofString "dim_of") pos) env) Q E ⟨h, gs, dr, t, os⟩ := x_glob X hx (by kernel_rfl) q
theorem n_integer {pos : Pos} {Q : Value → Shared → Prop} (X : Ex w env m g h) (hx : isGlob env (Str.ofString "integer") = true) (q : Q (.ref 113) ⟨h, gs, dr, t, os⟩) : wpAny M A (eval (.Name (Str.ofString "integer") pos) env) Q E ⟨h, gs, dr, t, os⟩ := x_glob X hx (by kernel_rfl) q
theorem n_character {pos : Pos} {Q : Value → Shared → Prop} (X : Ex w env m g h) (hx : isGlob env (Str.ofString "character") = true) (q : Q (.ref 120) ⟨h, gs, dr, t, os⟩) : wpAny M A (eval (.Name (Str.ofString "character") pos) env) Q E ⟨h, gs, dr, t, os⟩ := x_glob X hx (by kernel_rfl) q
theorem n_text_factor {pos : Pos} {Q : Value → Shared → Prop} (X : Ex w env m g h) (hx : isGlob env (Str.ofString "text_factor") = true) (q : Q (.ref 125) ⟨h, gs, dr, t, os⟩) : wpAny M A (eval (.Name (Str.ofString "text_factor") pos) env) Q E ⟨h, gs, dr, t, os⟩ := x_glob X hx (by kernel_rfl) q
theorem n_unique_texts {pos : Pos} {Q : Value → Shared → Prop} (X : Ex w env m g h) (hx : isGlob env (Str.ofString "unique_texts") = true) (q : Q (.ref 132) ⟨h, gs, dr, t, os⟩) : wpAny M A (eval (.Name (Str.ofString "unique_texts") pos) env) Q E ⟨h, gs, dr, t, os⟩ := x_glob X hx (by kernel_rfl) q
theorem n_missing_item {pos : Pos} {Q : Value → Shared → Prop} (X : Ex w env m g h) (hx : isGlob env (Str.ofString "missing_item") = true) (q : Q (.ref 139) ⟨h, gs, dr, t, os⟩) : wpAny M A (eval (.Name (Str.ofString "missing_item") pos) env) Q E ⟨h, gs, dr, t, os⟩ := x_glob X hx (by kernel_rfl) q
theorem n_missing_rows {pos : Pos} {Q : Value → Shared → Prop} (X : Ex w env m g h) (hx : isGlob env (Str.ofString "missing_rows") = true) (q : Q (.ref 146) ⟨h, gs, dr, t, os⟩) : wpAny M A (eval (.Name (Str.ofString "missing_rows") pos) env) Q E ⟨h, gs, dr, t, os⟩ := x_glob X hx (by kernel_rfl) q
theorem n_taken_rows {pos : Pos} {Q : Value → Shared → Prop} (X : Ex w env m g h) (hx : isGlob env (Str.ofString "taken_rows") = true) (q : Q (.ref 156) ⟨h, gs, dr, t, os⟩) : wpAny M A (eval (.Name (Str.ofString "taken_rows") pos) env) Q E ⟨h, gs, dr, t, os⟩ := x_glob X hx (by kernel_rfl) q
theorem n_numbered_rows {pos : Pos} {Q : Value → Shared → Prop} (X : Ex w env m g h) (hx : isGlob env (Str.ofString "numbered_rows") = true) (q : Q (.ref 161) ⟨h, gs, dr, t, os⟩) : wpAny M A (eval (.Name (Str.ofString "numbered_rows") pos) env) Q E ⟨h, gs, dr, t, os⟩ := x_glob X hx (by kernel_rfl) q
theorem n_kept_rows {pos : Pos} {Q : Value → Shared → Prop} (X : Ex w env m g h) (hx : isGlob env (Str.ofString "kept_rows") = true) (q : Q (.ref 166) ⟨h, gs, dr, t, os⟩) : wpAny M A (eval (.Name (Str.ofString "kept_rows") pos) env) Q E ⟨h, gs, dr, t, os⟩ := x_glob X hx (by kernel_rfl) q
theorem n_unique_heads {pos : Pos} {Q : Value → Shared → Prop} (X : Ex w env m g h) (hx : isGlob env (Str.ofString "unique_heads") = true) (q : Q (.ref 173) ⟨h, gs, dr, t, os⟩) : wpAny M A (eval (.Name (Str.ofString "unique_heads") pos) env) Q E ⟨h, gs, dr, t, os⟩ := x_glob X hx (by kernel_rfl) q
theorem n_factor_levels {pos : Pos} {Q : Value → Shared → Prop} (X : Ex w env m g h) (hx : isGlob env (Str.ofString "factor_levels") = true) (q : Q (.ref 178) ⟨h, gs, dr, t, os⟩) : wpAny M A (eval (.Name (Str.ofString "factor_levels") pos) env) Q E ⟨h, gs, dr, t, os⟩ := x_glob X hx (by kernel_rfl) q
theorem n_used_levels {pos : Pos} {Q : Value → Shared → Prop} (X : Ex w env m g h) (hx : isGlob env (Str.ofString "used_levels") = true) (q : Q (.ref 183) ⟨h, gs, dr, t, os⟩) : wpAny M A (eval (.Name (Str.ofString "used_levels") pos) env) Q E ⟨h, gs, dr, t, os⟩ := x_glob X hx (by kernel_rfl) q
theorem n_releveled {pos : Pos} {Q : Value → Shared → Prop} (X : Ex w env m g h) (hx : isGlob env (Str.ofString "releveled") = true) (q : Q (.ref 195) ⟨h, gs, dr, t, os⟩) : wpAny M A (eval (.Name (Str.ofString "releveled") pos) env) Q E ⟨h, gs, dr, t, os⟩ := x_glob X hx (by kernel_rfl) q
theorem n_law_row {pos : Pos} {Q : Value → Shared → Prop} (X : Ex w env m g h) (hx : isGlob env (Str.ofString "_law_row") = true) (q : Q (.ref 202) ⟨h, gs, dr, t, os⟩) : wpAny M A (eval (.Name (Str.ofString "_law_row") pos) env) Q E ⟨h, gs, dr, t, os⟩ := x_glob X hx (by kernel_rfl) q
theorem n_law_next {pos : Pos} {Q : Value → Shared → Prop} (X : Ex w env m g h) (hx : isGlob env (Str.ofString "_law_next") = true) (q : Q (.ref 209) ⟨h, gs, dr, t, os⟩) : wpAny M A (eval (.Name (Str.ofString "_law_next") pos) env) Q E ⟨h, gs, dr, t, os⟩ := x_glob X hx (by kernel_rfl) q
theorem n_law_texts {pos : Pos} {Q : Value → Shared → Prop} (X : Ex w env m g h) (hx : isGlob env (Str.ofString "_law_texts") = true) (q : Q (.ref 214) ⟨h, gs, dr, t, os⟩) : wpAny M A (eval (.Name (Str.ofString "_law_texts") pos) env) Q E ⟨h, gs, dr, t, os⟩ := x_glob X hx (by kernel_rfl) q
theorem n_law_factor_told {pos : Pos} {Q : Value → Shared → Prop} (X : Ex w env m g h) (hx : isGlob env (Str.ofString "_law_factor_told") = true) (q : Q (.ref 219) ⟨h, gs, dr, t, os⟩) : wpAny M A (eval (.Name (Str.ofString "_law_factor_told") pos) env) Q E ⟨h, gs, dr, t, os⟩ := x_glob X hx (by kernel_rfl) q
theorem n_law_numbered {pos : Pos} {Q : Value → Shared → Prop} (X : Ex w env m g h) (hx : isGlob env (Str.ofString "_law_numbered") = true) (q : Q (.ref 224) ⟨h, gs, dr, t, os⟩) : wpAny M A (eval (.Name (Str.ofString "_law_numbered") pos) env) Q E ⟨h, gs, dr, t, os⟩ := x_glob X hx (by kernel_rfl) q
theorem n_law_heads {pos : Pos} {Q : Value → Shared → Prop} (X : Ex w env m g h) (hx : isGlob env (Str.ofString "_law_heads") = true) (q : Q (.ref 231) ⟨h, gs, dr, t, os⟩) : wpAny M A (eval (.Name (Str.ofString "_law_heads") pos) env) Q E ⟨h, gs, dr, t, os⟩ := x_glob X hx (by kernel_rfl) q
theorem n_law_kept {pos : Pos} {Q : Value → Shared → Prop} (X : Ex w env m g h) (hx : isGlob env (Str.ofString "_law_kept") = true) (q : Q (.ref 236) ⟨h, gs, dr, t, os⟩) : wpAny M A (eval (.Name (Str.ofString "_law_kept") pos) env) Q E ⟨h, gs, dr, t, os⟩ := x_glob X hx (by kernel_rfl) q
theorem n_law_asked {pos : Pos} {Q : Value → Shared → Prop} (X : Ex w env m g h) (hx : isGlob env (Str.ofString "_law_asked") = true) (q : Q (.ref 243) ⟨h, gs, dr, t, os⟩) : wpAny M A (eval (.Name (Str.ofString "_law_asked") pos) env) Q E ⟨h, gs, dr, t, os⟩ := x_glob X hx (by kernel_rfl) q
theorem n_Vector {pos : Pos} {Q : Value → Shared → Prop} (X : Ex w env m g h) (hx : isGlob env (Str.ofString "Vector") = true) (q : Q (.ref 102) ⟨h, gs, dr, t, os⟩) : wpAny M A (eval (.Name (Str.ofString "Vector") pos) env) Q E ⟨h, gs, dr, t, os⟩ := x_glob X hx (by kernel_rfl) q
theorem n_Refusal {pos : Pos} {Q : Value → Shared → Prop} (X : Ex w env m g h) (hx : isGlob env (Str.ofString "Refusal") = true) (q : Q (.ref 75) ⟨h, gs, dr, t, os⟩) : wpAny M A (eval (.Name (Str.ofString "Refusal") pos) env) Q E ⟨h, gs, dr, t, os⟩ := x_glob X hx (by kernel_rfl) q
theorem n_len {pos : Pos} {Q : Value → Shared → Prop} (X : Ex w env m g h) (hx : isGlob env (Str.ofString "len") = true) (q : Q (.builtin "len") ⟨h, gs, dr, t, os⟩) : wpAny M A (eval (.Name (Str.ofString "len") pos) env) Q E ⟨h, gs, dr, t, os⟩ := x_blt X hx (by kernel_rfl) (by boot_by_name) (by decide) q
theorem n_range {pos : Pos} {Q : Value → Shared → Prop} (X : Ex w env m g h) (hx : isGlob env (Str.ofString "range") = true) (q : Q (.type "range") ⟨h, gs, dr, t, os⟩) : wpAny M A (eval (.Name (Str.ofString "range") pos) env) Q E ⟨h, gs, dr, t, os⟩ := x_blt X hx (by kernel_rfl) (by boot_by_name) (by decide) q
theorem n_list {pos : Pos} {Q : Value → Shared → Prop} (X : Ex w env m g h) (hx : isGlob env (Str.ofString "list") = true) (q : Q (.type "list") ⟨h, gs, dr, t, os⟩) : wpAny M A (eval (.Name (Str.ofString "list") pos) env) Q E ⟨h, gs, dr, t, os⟩ := x_blt X hx (by kernel_rfl) (by boot_by_name) (by decide) q
theorem n_dict {pos : Pos} {Q : Value → Shared → Prop} (X : Ex w env m g h) (hx : isGlob env (Str.ofString "dict") = true) (q : Q (.type "dict") ⟨h, gs, dr, t, os⟩) : wpAny M A (eval (.Name (Str.ofString "dict") pos) env) Q E ⟨h, gs, dr, t, os⟩ := x_blt X hx (by kernel_rfl) (by boot_by_name) (by decide) q
theorem n_sorted {pos : Pos} {Q : Value → Shared → Prop} (X : Ex w env m g h) (hx : isGlob env (Str.ofString "sorted") = true) (q : Q (.builtin "sorted") ⟨h, gs, dr, t, os⟩) : wpAny M A (eval (.Name (Str.ofString "sorted") pos) env) Q E ⟨h, gs, dr, t, os⟩ := x_blt X hx (by kernel_rfl) (by boot_by_name) (by decide) q
theorem n_isinstance {pos : Pos} {Q : Value → Shared → Prop} (X : Ex w env m g h) (hx : isGlob env (Str.ofString "isinstance") = true) (q : Q (.builtin "isinstance") ⟨h, gs, dr, t, os⟩) : wpAny M A (eval (.Name (Str.ofString "isinstance") pos) env) Q E ⟨h, gs, dr, t, os⟩ := x_blt X hx (by kernel_rfl) (by boot_by_name) (by decide) q
theorem n_str {pos : Pos} {Q : Value → Shared → Prop} (X : Ex w env m g h) (hx : isGlob env (Str.ofString "str") = true) (q : Q (.type "str") ⟨h, gs, dr, t, os⟩) : wpAny M A (eval (.Name (Str.ofString "str") pos) env) Q E ⟨h, gs, dr, t, os⟩ := x_blt X hx (by kernel_rfl) (by boot_by_name) (by decide) q
theorem k_28 {h : Heap} (W : Wd w h) : Kept w (.ref 28) h := .top (by kernel_rfl) W.K
theorem k_33 {h : Heap} (W : Wd w h) : Kept w (.ref 33) h := .top (by kernel_rfl) W.K
theorem k_40 {h : Heap} (W : Wd w h) : Kept w (.ref 40) h := .top (by kernel_rfl) W.K
theorem k_113 {h : Heap} (W : Wd w h) : Kept w (.ref 113) h := .top (by kernel_rfl) W.K
theorem k_120 {h : Heap} (W : Wd w h) : Kept w (.ref 120) h := .top (by kernel_rfl) W.K
theorem k_125 {h : Heap} (W : Wd w h) : Kept w (.ref 125) h := .top (by kernel_rfl) W.K
theorem k_132 {h : Heap} (W : Wd w h) : Kept w (.ref 132) h := .top (by kernel_rfl) W.K
theorem k_139 {h : Heap} (W : Wd w h) : Kept w (.ref 139) h := .top (by kernel_rfl) W.K
theorem k_146 {h : Heap} (W : Wd w h) : Kept w (.ref 146) h := .top (by kernel_rfl) W.K
theorem k_156 {h : Heap} (W : Wd w h) : Kept w (.ref 156) h := .top (by kernel_rfl) W.K
theorem k_161 {h : Heap} (W : Wd w h) : Kept w (.ref 161) h := .top (by kernel_rfl) W.K
theorem k_166 {h : Heap} (W : Wd w h) : Kept w (.ref 166) h := .top (by kernel_rfl) W.K
theorem k_173 {h : Heap} (W : Wd w h) : Kept w (.ref 173) h := .top (by kernel_rfl) W.K
theorem k_178 {h : Heap} (W : Wd w h) : Kept w (.ref 178) h := .top (by kernel_rfl) W.K
theorem k_183 {h : Heap} (W : Wd w h) : Kept w (.ref 183) h := .top (by kernel_rfl) W.K
theorem k_195 {h : Heap} (W : Wd w h) : Kept w (.ref 195) h := .top (by kernel_rfl) W.K
theorem k_202 {h : Heap} (W : Wd w h) : Kept w (.ref 202) h := .top (by kernel_rfl) W.K
theorem k_209 {h : Heap} (W : Wd w h) : Kept w (.ref 209) h := .top (by kernel_rfl) W.K
theorem k_214 {h : Heap} (W : Wd w h) : Kept w (.ref 214) h := .top (by kernel_rfl) W.K
theorem k_219 {h : Heap} (W : Wd w h) : Kept w (.ref 219) h := .top (by kernel_rfl) W.K
theorem k_224 {h : Heap} (W : Wd w h) : Kept w (.ref 224) h := .top (by kernel_rfl) W.K
theorem k_231 {h : Heap} (W : Wd w h) : Kept w (.ref 231) h := .top (by kernel_rfl) W.K
theorem k_236 {h : Heap} (W : Wd w h) : Kept w (.ref 236) h := .top (by kernel_rfl) W.K
theorem k_243 {h : Heap} (W : Wd w h) : Kept w (.ref 243) h := .top (by kernel_rfl) W.K
theorem k_102 {h : Heap} (W : Wd w h) : Kept w (.ref 102) h := .top (by kernel_rfl) W.K
theorem k_75 {h : Heap} (W : Wd w h) : Kept w (.ref 75) h := .top (by kernel_rfl) W.K
end
theorem kept_ty {w : World} {h : Heap} {T : String} : Kept w (.type T) h := .other fun _ e => by cases e
theorem kept_bl {w : World} {h : Heap} {T : String} : Kept w (.builtin T) h := .other fun _ e => by cases e
end
local macro_rules | `(tactic| walk_at "kept") => `(tactic| with_reducible first | apply kept_ty | apply kept_bl | (apply k_28; walk_at "W") | (apply k_33; walk_at "W") | (apply k_40; walk_at "W") | (apply k_113; walk_at "W") | (apply k_120; walk_at "W") | (apply k_125; walk_at "W") | (apply k_132; walk_at "W") | (apply k_139; walk_at "W") | (apply k_146; walk_at "W") | (apply k_156; walk_at "W") | (apply k_161; walk_at "W") | (apply k_166; walk_at "W") | (apply k_173; walk_at "W") | (apply k_178; walk_at "W") | (apply k_183; walk_at "W") | (apply k_195; walk_at "W") | (apply k_202; walk_at "W") | (apply k_209; walk_at "W") | (apply k_214; walk_at "W") | (apply k_219; walk_at "W") | (apply k_224; walk_at "W") | (apply k_231; walk_at "W") | (apply k_236; walk_at "W") | (apply k_243; walk_at "W") | (apply k_102; walk_at "W") | (apply k_75; walk_at "W"))
section
set_option maxRecDepth 100000
open PySem PySem.W PySem.Calls PyProof.Rows
open PySem.SeqAt (EqAt RcAt)
/-! ## new things, frozen -/
theorem Grow.alloc {g h : Heap} (s : Sub g h) (o : Obj) (ho : o.isFreed = false) : Grow NoW g h (plus g (h.push o) fun b => b = h.objs.size) (h.push o) ∧ (plus g (h.push o) fun b => b = h.objs.size).get? h.objs.size = some o := by
  have k : Sub h (h.push o) := fun b o' e => Heap.get?_push_of_some _ e
  exact ⟨(Grow.mk0 Sub.refl (s.trans k) (fun _ _ e => .inl e) k).freeze _ fun b q => q ▸ get_none_of (Nat.le_refl _), plus_at rfl (Heap.get?_push_size _ ho)⟩
theorem Grow.made {g h h' : Heap} (s : Sub g h) (k : Sub h h') (P : Addr → Prop) (hP : ∀ b, P b → h.get? b = none) : Grow NoW g h (plus g h' P) h' :=
  (Grow.mk0 Sub.refl (s.trans k) (fun _ _ e => .inl e) k).freeze _ hP

section
variable {prog : Program} {w : World} {A : Around} {E : Value → Shared → Prop} {env : Env} {g h : Heap} {gs : Array GenState} {dr : Drawn} {t : Nat} {os : OsState} {m : Str → Option Value}

/-! ## lists, reading -/
theorem l_item {value slice : Expr} {a : Addr} {xs : List Value} {i : Nat} {k : Int} {u : Tok} {v : Value} {Q : Value → Shared → Prop} (hl : Lst h a xs) (hk : k = (i : Int)) (hx : xs[i]? = some v) (hfit : xs.length ≤ 1000000) (q : Q v ⟨h, gs, dr, t, os⟩)
    (hs : subscripted slice false (.ref a) (.int k u) = operate [.ref a, .int k u] (getItem (.ref a) (.int k u)) := by with_unfolding_all rfl) : wpAny (model prog w) A (subscriptTail value slice (.ref a) (.int k u)) Q E ⟨h, gs, dr, t, os⟩ := by
  subst hk
  have hlt : i < xs.length := (List.getElem?_eq_some_iff.mp hx).1
  exact tail_any (s := ⟨h, gs, dr, t, os⟩) hl.is.typeIs slot_list_getitem.lookup (wpAny_getItem_list (s := ⟨h, gs, dr, t, os⟩) hl.is (Int.natCast_nonneg i) (by omega) (by simpa using hx) q) hs

theorem l_len {a : Addr} {xs : List Value} {Q : Value → Shared → Prop} (hl : Lst h a xs) (hfit : xs.length ≤ 100000000) (q : ∀ tk t', Q (.int (xs.length : Int) tk) ⟨h, gs, dr, t', os⟩) : wpAny (model prog w) A (call (.builtin "len") [.ref a]) Q E ⟨h, gs, dr, t, os⟩ := by
  refine call_len_list (s := ⟨h, gs, dr, t, os⟩) hl.is (by rw [List.size_toArray]; omega) ?_
  rw [List.size_toArray]; exact q _ _

theorem l_in {a : Addr} {xs : List Value} {x : Value} {Q : Value → Shared → Prop} (hl : Lst h a xs) (hf : ∀ y ∈ xs, flat y = true) (hx : flat x = true) (q : Q (.bool (xs.any fun y => er y == er x)) ⟨h, gs, dr, t, os⟩) : wpAny (model prog w) A (compareOp .In x (.ref a)) Q E ⟨h, gs, dr, t, os⟩ :=
  PySem.SeqAt.in_listAt (s := ⟨h, gs, dr, t, os⟩) (fun y => er y == er x) hl.is (fun y hy => eqAt_flat (hf y (by simpa using hy)) hx) (by simpa using q)
theorem l_notIn {a : Addr} {xs : List Value} {x : Value} {Q : Value → Shared → Prop} (hl : Lst h a xs) (hf : ∀ y ∈ xs, flat y = true) (hx : flat x = true) (q : Q (.bool (!xs.any fun y => er y == er x)) ⟨h, gs, dr, t, os⟩) : wpAny (model prog w) A (compareOp .NotIn x (.ref a)) Q E ⟨h, gs, dr, t, os⟩ :=
  PySem.SeqAt.notIn_listAt (s := ⟨h, gs, dr, t, os⟩) (fun y => er y == er x) hl.is (fun y hy => eqAt_flat (hf y (by simpa using hy)) hx) (by simpa using q)

theorem l_eq {a b : Addr} {xs ys : List Value} {Q : Value → Shared → Prop} {n : Nat} (R : Room A n) (ha : Lst h a xs) (hb : Lst h b ys) (hf : ∀ y ∈ xs, flat y = true) (hg : ∀ y ∈ ys, flat y = true) (q : Q (.bool (decide (xs.map er = ys.map er))) ⟨h, gs, dr, t, os⟩) :
    wpAny (model prog w) A (compareOp .Eq (.ref a) (.ref b)) Q E ⟨h, gs, dr, t, os⟩ := by
  by_cases hl : xs.length = ys.length
  · refine PySem.SeqAt.eq_listAt (s := ⟨h, gs, dr, t, os⟩) (e := fun j => (xs[j]?.map er) == (ys[j]?.map er)) ha.is hb.is (by simpa using hl) R.units (fun j h1 h2 => ?_) ?_
    · rw [List.size_toArray] at h1 h2
      rw [List.getElem?_eq_getElem h1, List.getElem?_eq_getElem h2, Option.map_some, Option.map_some]
      have : (some (er xs[j]) == some (er ys[j])) = (er xs[j] == er ys[j]) := rfl
      rw [this]
      simpa using eqAt_flat (A := A.in1) (s := ⟨h, gs, dr, t, os⟩) (hf _ (List.getElem_mem h1)) (hg _ (List.getElem_mem h2))
    · have : ((List.range xs.toArray.size).all fun j => (xs[j]?.map er) == (ys[j]?.map er)) = decide (xs.map er = ys.map er) := by
        rw [Bool.eq_iff_iff, List.all_eq_true, decide_eq_true_eq, List.size_toArray]
        constructor
        · intro hh
          apply List.ext_getElem?
          intro j
          rw [List.getElem?_map, List.getElem?_map]
          by_cases hj : j < xs.length
          · exact beq_iff_eq.mp (hh j (List.mem_range.mpr hj))
          · rw [List.getElem?_eq_none (Nat.not_lt.mp hj), List.getElem?_eq_none (by rw [← hl]; exact Nat.not_lt.mp hj)]
        · intro hh j hj
          rw [beq_iff_eq, ← List.getElem?_map, ← List.getElem?_map, hh]
      rw [this]; exact q
  · refine PySem.SeqAt.eq_list_lengthsAt (s := ⟨h, gs, dr, t, os⟩) ha.is hb.is (by simpa using hl) R.units ?_
    have : decide (xs.map er = ys.map er) = false := by
      rw [decide_eq_false_iff_not]; intro e; exact hl (by simpa using congrArg List.length e)
    rw [this] at q; exact q

/-! ## lists, making -/
theorem l_display {pos : Pos} {elts : List Expr} {Q : Value → Shared → Prop}
    (hq : wpAny (model prog w) A (spliced (backTo pos (starEach elts env))) (fun vs s₁ => vs.length ≤ 100 ∧ ∃ g h t, s₁ = ⟨h, gs, dr, t, os⟩ ∧ Sub g h ∧ ∀ a g' h', h.get? a = none → Grow NoW g h g' h' → Lst g' a vs → Q (.ref a) ⟨h', gs, dr, t, os⟩) E ⟨h, gs, dr, t, os⟩) :
    wpAny (model prog w) A (eval (.List elts pos) env) Q E ⟨h, gs, dr, t, os⟩ := by
  refine PySem.wpAny_List (wpAny_mono hq (fun vs s₁ h₁ => ?_) fun _ _ z => z)
  obtain ⟨hn, g, h, t, rfl, sub, h₁⟩ := h₁
  refine ⟨by rw [sizeLine_eq]; omega, ?_⟩
  have := Grow.alloc sub { cls := .type "list", data := .seq vs.toArray } rfl
  exact h₁ h.objs.size _ _ (get_none_of (Nat.le_refl _)) this.1 ⟨0, this.2⟩
theorem t_display {pos : Pos} {elts : List Expr} {k : Nat} {Q : Value → Shared → Prop}
    (hq : wpAny (model prog w) A (spliced (backTo pos (starEach elts env))) (fun vs s₁ => vs.length ≤ 100 ∧ ∃ g h t, s₁ = ⟨h, gs, dr, t, os⟩ ∧ Sub g h ∧ ∀ a g' h', h.get? a = none → Grow NoW g h g' h' → g'.IsTuple a vs.toArray → Q (.ref a) ⟨h', gs, dr, t, os⟩) E ⟨h, gs, dr, t, os⟩) :
    wpAny (model prog w) A (eval (.Tuple elts k pos) env) Q E ⟨h, gs, dr, t, os⟩ := by
  refine PySem.wpAny_Tuple (wpAny_mono hq (fun vs s₁ h₁ => ?_) fun _ _ z => z)
  obtain ⟨hn, g, h, t, rfl, sub, h₁⟩ := h₁
  refine ⟨by rw [sizeLine_eq]; omega, ?_⟩
  have := Grow.alloc sub { cls := .type "tuple", data := .seq vs.toArray } rfl
  exact h₁ h.objs.size _ _ (get_none_of (Nat.le_refl _)) this.1 ⟨_, this.2, rfl, 0, rfl⟩
/-- a display whose list stays one's own -/
theorem l_display0 {pos : Pos} {Q : Value → Shared → Prop} (q : ∀ a h', h.get? a = none → Sub h h' → h'.get? a = some { cls := .type "list", data := .seq #[] } → Q (.ref a) ⟨h', gs, dr, t, os⟩) :
    wpAny (model prog w) A (eval (.List [] pos) env) Q E ⟨h, gs, dr, t, os⟩ := by
  refine PySem.wpAny_List (wpAny_items_nil ⟨by decide, ?_⟩)
  exact q _ _ (get_none_of (Nat.le_refl _)) (fun b o e => Heap.get?_push_of_some _ e) (Heap.get?_push_size _ rfl)
theorem d_display0 {pos : Pos} {Q : Value → Shared → Prop} (q : ∀ a h', h.get? a = none → Sub h h' → h'.get? a = some { cls := .type "dict", data := .dict #[] } → Q (.ref a) ⟨h', gs, dr, t, os⟩) :
    wpAny (model prog w) A (eval (.Dict [] [] pos) env) Q E ⟨h, gs, dr, t, os⟩ := by
  refine wpAny_Dict_empty ?_
  exact q _ _ (get_none_of (Nat.le_refl _)) (fun b o e => Heap.get?_push_of_some _ e) (Heap.get?_push_size _ rfl)

theorem l_append {a : Addr} {xs : List Value} {n : Nat} {x : Value} {Q : Value → Shared → Prop} (hl : h.get? a = some { cls := .type "list", data := .seq xs.toArray n }) (hn : xs.length ≤ 1000000)
    (q : ∀ h' n', h'.get? a = some { cls := .type "list", data := .seq (xs ++ [x]).toArray n' } → Heap.SameBut a h h' → Q .none ⟨h', gs, dr, t, os⟩) : wpAny (model prog w) A (call (.builtin "list.append") [.ref a, x]) Q E ⟨h, gs, dr, t, os⟩ := by
  refine wpAny_list_append_plain (s := ⟨h, gs, dr, t, os⟩) (hsz := by rw [List.size_toArray, sizeLine_eq]; omega) ⟨n, hl⟩ fun h' hl' hs => ?_
  obtain ⟨n', e⟩ := hl'
  exact q h' n' (by simpa using e) hs

theorem r_range {n : Nat} {u : Tok} {Q : Value → Shared → Prop} (sub : Sub g h) (q : ∀ a g' h' t' x y z, h.get? a = none → Grow NoW g h g' h' → IsRange h' a 0 n 1 x y z → Q (.ref a) ⟨h', gs, dr, t', os⟩) :
    wpAny (model prog w) A (call (.type "range") [.int n u]) Q E ⟨h, gs, dr, t, os⟩ := by
  refine call_range_1 ?_
  have := Grow.alloc sub { cls := .type "range", data := .fields #[.int 0 t, .int n u, .int 1 (t + 1)] } rfl
  exact q _ _ _ _ _ _ _ (get_none_of (Nat.le_refl _)) this.1 (plus_sub _ _ this.2)

theorem c_list {a : Addr} {xs : List Value} {Q : Value → Shared → Prop} (sub : Sub g h) (hl : Lst h a xs) (hn : xs.length ≤ 1000000) (q : ∀ b g' h', h.get? b = none → Grow NoW g h g' h' → Lst g' b xs → Q (.ref b) ⟨h', gs, dr, t, os⟩) :
    wpAny (model prog w) A (call (.type "list") [.ref a]) Q E ⟨h, gs, dr, t, os⟩ := by
  obtain ⟨n, e⟩ := hl
  refine call_list_seq (s := ⟨h, gs, dr, t, os⟩) (hsz := by rw [List.size_toArray, sizeLine_eq]; omega) a (.inl rfl) e rfl rfl fun h' c' hk hD => ?_
  exact q _ _ _ (get_none_of (Nat.le_refl _)) (Grow.made sub hk (fun b => b = h.objs.size) fun b q => q ▸ get_none_of (Nat.le_refl _)) ⟨c', plus_at rfl hD⟩
theorem c_list_range {a : Addr} {n : Nat} {x y z : Tok} {Q : Value → Shared → Prop} (hh : A.handled = none) (sub : Sub g h) (hr : IsRange h a 0 n 1 x y z) (hn : n ≤ 1000000)
    (q : ∀ b g' h' t' xs, h.get? b = none → Grow NoW g h g' h' → Lst g' b xs → xs.map er = (List.range n).map (fun (i:Nat) => Value.int (i : Int) 0) → Q (.ref b) ⟨h', gs, dr, t', os⟩) :
    wpAny (model prog w) A (call (.type "list") [.ref a]) Q E ⟨h, gs, dr, t, os⟩ := by
  refine call_list_range (s := ⟨h, gs, dr, t, os⟩) hh hr (small0 (by omega)) (rangeSize0 n) (by omega) fun h' tk acc' c' hk hD hacc => ?_
  have e : acc' = acc'.toList.toArray := by simp
  refine q _ _ _ _ acc'.toList (get_none_of (Nat.le_refl _)) (Grow.made sub hk (fun b => b = h.objs.size) fun b q => q ▸ get_none_of (Nat.le_refl _)) ⟨c', plus_at rfl (by rw [← e]; exact hD)⟩ ?_
  obtain ⟨h1, h2⟩ := hacc
  apply List.ext_getElem?
  intro j
  rw [List.getElem?_map, List.getElem?_map]
  by_cases hj : j < n
  · have : acc'.toList[j]? = some (acc'.toList[j]'(by simp [h1, hj])) := by simp [h1, hj]
    obtain ⟨tk', ht⟩ := h2 j _ (by rw [← Array.getElem?_toList]; exact this)
    rw [this, ht]
    simp [hj, er]
  · rw [List.getElem?_eq_none (by simp [h1]; omega), List.getElem?_eq_none (by simp; omega)]; rfl
end
end
section
set_option maxRecDepth 100000
open PySem PySem.W PySem.Calls PyProof.Rows
open PySem.SeqAt (EqAt RcAt)
theorem ite_t {b : Bool} {P Q : Prop} (h : b = true) (p : P) : if b = true then P else Q := by rw [if_pos h]; exact p
theorem ite_f {b : Bool} {P Q : Prop} (h : b = false) (q : Q) : if b = true then P else Q := by rw [if_neg (by rw [h]; decide)]; exact q
theorem ite_s {b : Bool} {P Q : Prop} (h1 : b = true → P) (h2 : b = false → Q) : if b = true then P else Q := by cases b <;> simp_all

section
variable {prog : Program} {w : World} {A : Around} {E : Value → Shared → Prop} {env : Env} {g h : Heap} {gs : Array GenState} {dr : Drawn} {t : Nat} {os : OsState} {m : Str → Option Value} {M : Model}

theorem k_int {i k pos} {Q : Value → Shared → Prop} (q : ∀ tk t', Q (.int i tk) ⟨h, gs, dr, t', os⟩) : wpAny M A (eval (.Constant (.int i) k pos) env) Q E ⟨h, gs, dr, t, os⟩ := wpAny_Constant_int (q _ _)
theorem k_str {x : Str} {k pos} {Q : Value → Shared → Prop} (q : ∀ tk t', Q (.str x tk) ⟨h, gs, dr, t', os⟩) : wpAny M A (eval (.Constant (.str x) k pos) env) Q E ⟨h, gs, dr, t, os⟩ := wpAny_Constant_str (q _ _)

theorem o_add {a b : Int} {x y : Tok} {Q : Value → Shared → Prop} (q : ∀ tk t', Q (.int (a + b) tk) ⟨h, gs, dr, t', os⟩) : wpAny (model prog w) A (binaryOp .Add (.int a x) (.int b y)) Q E ⟨h, gs, dr, t, os⟩ := PyProof.Rows.add_int (q _ _)
theorem o_sub {a b : Int} {x y : Tok} {Q : Value → Shared → Prop} (q : ∀ tk t', Q (.int (a - b) tk) ⟨h, gs, dr, t', os⟩) : wpAny (model prog w) A (binaryOp .Sub (.int a x) (.int b y)) Q E ⟨h, gs, dr, t, os⟩ := PyProof.Rows.sub_int (q _ _)
theorem o_mul {a b : Int} {x y : Tok} {Q : Value → Shared → Prop} (hm : IntMulOk a b) (q : ∀ tk t', Q (.int (a * b) tk) ⟨h, gs, dr, t', os⟩) : wpAny (model prog w) A (binaryOp .Mult (.int a x) (.int b y)) Q E ⟨h, gs, dr, t, os⟩ := PyProof.Rows.mul_int (q _ _) hm
theorem o_neg {a : Int} {x : Tok} {Q : Value → Shared → Prop} (q : ∀ tk t', Q (.int (-a) tk) ⟨h, gs, dr, t', os⟩) : wpAny (model prog w) A (unaryOp .USub (.int a x)) Q E ⟨h, gs, dr, t, os⟩ := PyProof.Rows.neg_int (q _ _)
theorem o_str {a : Int} {x : Tok} {Q : Value → Shared → Prop} (h0 : 0 ≤ a) (h1 : a ≤ 1000) (q : ∀ tk t', Q (.str (Str.ofString (toString a)) tk) ⟨h, gs, dr, t', os⟩) : wpAny (model prog w) A (call (.type "str") [.int a x]) Q E ⟨h, gs, dr, t, os⟩ := PyProof.Rows.str_of_int_fit (N := 2000) (by split <;> omega) (by omega) fun _ => q _ _
theorem o_eq {a b : Int} {x y : Tok} {Q : Value → Shared → Prop} (q : Q (.bool (a == b)) ⟨h, gs, dr, t, os⟩) : wpAny (model prog w) A (compareOp .Eq (.int a x) (.int b y)) Q E ⟨h, gs, dr, t, os⟩ := PyProof.Rows.eq_int q
theorem o_ne {a b : Int} {x y : Tok} {Q : Value → Shared → Prop} (q : Q (.bool (a != b)) ⟨h, gs, dr, t, os⟩) : wpAny (model prog w) A (compareOp .NotEq (.int a x) (.int b y)) Q E ⟨h, gs, dr, t, os⟩ := PyProof.Rows.ne_int q
theorem o_lt {a b : Int} {x y : Tok} {Q : Value → Shared → Prop} (q : Q (.bool (decide (a < b))) ⟨h, gs, dr, t, os⟩) : wpAny (model prog w) A (compareOp .Lt (.int a x) (.int b y)) Q E ⟨h, gs, dr, t, os⟩ := PyProof.Rows.lt_int q
theorem o_gt {a b : Int} {x y : Tok} {Q : Value → Shared → Prop} (q : Q (.bool (decide (a > b))) ⟨h, gs, dr, t, os⟩) : wpAny (model prog w) A (compareOp .Gt (.int a x) (.int b y)) Q E ⟨h, gs, dr, t, os⟩ := PyProof.Rows.gt_int q
theorem o_ge {a b : Int} {x y : Tok} {Q : Value → Shared → Prop} (q : Q (.bool (decide (a ≥ b))) ⟨h, gs, dr, t, os⟩) : wpAny (model prog w) A (compareOp .GtE (.int a x) (.int b y)) Q E ⟨h, gs, dr, t, os⟩ := PyProof.Rows.ge_int q
theorem o_seq {a b : Str} {x y : Tok} {Q : Value → Shared → Prop} (q : Q (.bool (a == b)) ⟨h, gs, dr, t, os⟩) : wpAny (model prog w) A (compareOp .Eq (.str a x) (.str b y)) Q E ⟨h, gs, dr, t, os⟩ := PyProof.Rows.eq_str q
theorem o_sne {a b : Str} {x y : Tok} {Q : Value → Shared → Prop} (q : Q (.bool (a != b)) ⟨h, gs, dr, t, os⟩) : wpAny (model prog w) A (compareOp .NotEq (.str a x) (.str b y)) Q E ⟨h, gs, dr, t, os⟩ := PyProof.Rows.ne_str q
theorem o_sadd {a b : Str} {x y : Tok} {Q : Value → Shared → Prop} (hz : a.length + b.length ≤ 1000) (q : ∀ tk t', Q (.str (a ++ b) tk) ⟨h, gs, dr, t', os⟩) : wpAny (model prog w) A (binaryOp .Add (.str a x) (.str b y)) Q E ⟨h, gs, dr, t, os⟩ := PyProof.Rows.add_str (fun tk t' => q tk t') (hsz := by rw [sizeLine_eq]; omega)
theorem o_mod {a b : Int} {x y : Tok} {Q : Value → Shared → Prop} (hb : b ≠ 0) (q : ∀ tk t', Q (.int (a.fmod b) tk) ⟨h, gs, dr, t', os⟩) : wpAny (model prog w) A (binaryOp .Mod (.int a x) (.int b y)) Q E ⟨h, gs, dr, t, os⟩ := PyProof.Rows.mod_int' hb (q _ _)
theorem o_fdiv {a b : Int} {x y : Tok} {Q : Value → Shared → Prop} (hb : b ≠ 0) (hs : b.natAbs < 1073741824) (q : ∀ tk t', Q (.int (a.fdiv b) tk) ⟨h, gs, dr, t', os⟩) : wpAny (model prog w) A (binaryOp .FloorDiv (.int a x) (.int b y)) Q E ⟨h, gs, dr, t, os⟩ := PyProof.Rows.floordiv_int hb (q _ _) (.inl (PyProof.noPylong_small hs))

/-! ## calls by value -/
abbrev PR := Challenge.rw_nz0477_01.row.prog
theorem call_v {wr : Addr → Prop} {f : Addr} {fd : FuncData} {vals : List Value} {binds : List (Str × Value)} {body : List Stmt} {oc : Value} {od : Option Addr} {osl : Array (Option Value)} {Q : Value → Shared → Prop} (sub : Sub g h) (W : Wd w g) (hroom : A.depth < recursionLimit)
    (ho : (KP w).lookup f = some ⟨oc, od, .func fd, osl⟩) (hb : fd.body = .stmts body) (hcode : codeIn (KP w) fd.code fd.qualname = true) (hclo : fd.closure = []) (hgl : fd.globals = mainGlobals) (hbl : fd.builtins = builtinsNs)
    (hbind : BindsTo ⟨h, gs, dr, t, os⟩ fd ⟨vals, []⟩ binds) (hok : frameOk fd.scope binds = true) (hwr : ∀ b, wr b → (∃ o, h.get? b = some o) ∧ g.get? b = none)
    (H : ∀ L h₁ t₁ E', Sub h h₁ → Fn w wr g h (callEnvC fd L f) [] (bindM binds) g h₁ → wpAny (model prog w) (A.deeper (callEnvC fd L f)) (execs body (callEnvC fd L f)) (fun fl s' => Q (match fl with | .ret v => v | _ => .none) s') E' ⟨h₁, gs, dr, t₁, os⟩) :
    wpAny (model prog w) A (call (.ref f) vals) Q E ⟨h, gs, dr, t, os⟩ :=
  wpAny_call (call_fn (wr := wr) sub W hroom ho hb hcode hclo hgl hbl hbind hok hwr fun L h₁ t₁ K F => H L h₁ t₁ _ K F)

/-! ## dicts -/
abbrev sK (w : World) := PySem.strKind PR w
abbrev iK (w : World) := PySem.intKind PR w
def Dct {K : Type} [DecidableEq K] (knd : KeyKind PR w K) (g : Heap) (d : Addr) (kvs : List (K × Value)) : Prop := g.DictOf knd d kvs ∧ (d == sysModules) = false
theorem Dct.up {K : Type} [DecidableEq K] {knd : KeyKind PR w K} {d : Addr} {kvs : List (K × Value)} (x : Dct knd g d kvs) (s : Sub g h) : Dct knd h d kvs := ⟨x.1.at fun _ e => s _ _ e, x.2⟩
def look (n : Str) (kvs : List (Str × Value)) : Option Value := valueAt kvs n

theorem d_get {d : Addr} {kvs : List (Str × Value)} {n : Str} {tk : Tok} {Q : Value → Shared → Prop} (D : Dct (sK w) h d kvs) (q : ∀ t', Q ((look n kvs).getD .none) ⟨h, gs, dr, t', os⟩) : wpAny (model PR w) A (call (.builtin "dict.get") [.ref d, .str n tk]) Q E ⟨h, gs, dr, t, os⟩ :=
  call_meetsIn (s := ⟨h, gs, dr, t, os⟩) PySem.F.slot_dict_get D.1.mapOf.typeIs PySem.F.entry_dict_get (PySem.F.args_dict_get_2 _ _) (meets_dict_get (sK w) d (k := n) (key := .str n tk) (by simp [sK, PySem.strKind, Value.isStrOf]) D.2) ⟨_, D.1.mapOf, q _⟩

/-- v.attrs -/
def Att (w : World) (g : Heap) (v : Value) : Option (List (Str × Value)) → Prop
  | none => v = .none
  | some kvs => ∃ d, v = .ref d ∧ Dct (sK w) g d kvs
theorem Att.up {v : Value} : ∀ {at' : Option (List (Str × Value))}, Att w g v at' → Sub g h → Att w h v at'
  | none, x, _ => x
  | some _, ⟨d, e, x⟩, s => ⟨d, e, x.up s⟩

/-! ## Vector -/
def VecAt (g : Heap) (v : Value) (kind : Str) (a : Addr) (attrs : Value) : Prop := ∃ x dx es n tk, v = .ref x ∧ InsAt g x dx 102 es n ∧ getL "kind" es = some (some (.str kind tk)) ∧ getL "items" es = some (some (.ref a)) ∧ getL "attrs" es = some (some attrs) ∧ handedIn attrs = true ∧ es.length < 10
def Vec (w : World) (g : Heap) (v : Value) (kind : Str) (xs : List Value) (at' : Option (List (Str × Value))) : Prop := ∃ a attrs, VecAt g v kind a attrs ∧ Lst g a xs ∧ Att w g attrs at'
theorem VecAt.up {v : Value} {kind : Str} {a : Addr} {attrs : Value} (x : VecAt g v kind a attrs) (s : Sub g h) : VecAt h v kind a attrs := let ⟨x, dx, es, n, tk, e, i, r⟩ := x; ⟨x, dx, es, n, tk, e, i.up s, r⟩
theorem Vec.up {v : Value} {kind : Str} {xs : List Value} {at' : Option (List (Str × Value))} (x : Vec w g v kind xs at') (s : Sub g h) : Vec w h v kind xs at' := let ⟨a, b, x, y, z⟩ := x; ⟨a, b, x.up s, y.up s, z.up s⟩
theorem vec_kind {v : Value} {kind : Str} {a : Addr} {attrs : Value} {Q : Value → Shared → Prop} (W : Wd w h) (x : VecAt h v kind a attrs) (q : ∀ tk t', Q (.str kind tk) ⟨h, gs, dr, t', os⟩) : wpAny (model prog w) A (getAttr v "kind" true) Q E ⟨h, gs, dr, t, os⟩ := by
  obtain ⟨x, dx, es, n, tk, rfl, i, h1, h2, h3, h4, _⟩ := x
  exact get_ins W.K i (by kernel_rfl) (by kernel_rfl) (by kernel_rfl) h1 rfl (q _ _)
theorem vec_items {v : Value} {kind : Str} {a : Addr} {attrs : Value} {Q : Value → Shared → Prop} (W : Wd w h) (x : VecAt h v kind a attrs) (q : ∀ t', Q (.ref a) ⟨h, gs, dr, t', os⟩) : wpAny (model prog w) A (getAttr v "items" true) Q E ⟨h, gs, dr, t, os⟩ := by
  obtain ⟨x, dx, es, n, tk, rfl, i, h1, h2, h3, h4, _⟩ := x
  exact get_ins W.K i (by kernel_rfl) (by kernel_rfl) (by kernel_rfl) h2 rfl (q _)
theorem vec_attrs {v : Value} {kind : Str} {a : Addr} {attrs : Value} {Q : Value → Shared → Prop} (W : Wd w h) (x : VecAt h v kind a attrs) (q : ∀ t', Q attrs ⟨h, gs, dr, t', os⟩) : wpAny (model prog w) A (getAttr v "attrs" true) Q E ⟨h, gs, dr, t, os⟩ := by
  obtain ⟨x, dx, es, n, tk, rfl, i, h1, h2, h3, h4, _⟩ := x
  exact get_ins W.K i (by kernel_rfl) (by kernel_rfl) (by kernel_rfl) h3 h4 (q _)
end
end
local macro_rules | `(tactic| walk_at "m") => `(tactic| with_unfolding_all first | rfl | assumption | exact (upd_ne (by decide)).trans (by walk_at "m"))
local macro_rules | `(tactic| walk_at "X") => `(tactic| first | assumption | exact Fn.toEx (by assumption))
local macro_rules | `(tactic| walk_at "up") => `(tactic| first
  | exact Sub.refl
  | assumption
  | (refine Sub.trans ?_ (Ex.sub (Fn.toEx (by assumption))); walk_at "up")
  | (refine Sub.trans ?_ (Ex.sub (by assumption)); walk_at "up")
  | (refine Sub.trans ?_ (Grow.le (by assumption)); walk_at "up")
  | (refine Sub.trans ?_ (by assumption); walk_at "up"))
local macro_rules | `(tactic| walk_at "W") => `(tactic| first | assumption | exact Ex.Wh (by assumption) | exact Ex.Wh (Fn.toEx (by assumption)))
section
set_option maxRecDepth 100000
open PySem PySem.W PySem.Calls PyProof.Rows
open PySem.SeqAt (EqAt RcAt)
theorem store_fn {w : World} {A : Around} {E : Value → Shared → Prop} {env : Env} {g h g₀ h₀ : Heap} {gs : Array GenState} {dr : Drawn} {t : Nat} {os : OsState} {m : Str → Option Value} {M : Model} {wr : Addr → Prop} {μ : List (Addr × Obj)} {x : Str} {v : Value} {Q : Unit → Shared → Prop} (F : Fn w wr g₀ h₀ env μ m g h) (hx : (isLocal env x || isCellN env x) = true)
    (q : ∀ h' t', Fn w wr g₀ h₀ env μ (upd m x v) g h' → Q () ⟨h', gs, dr, t', os⟩) : wpAny M A (storeName env x v) Q E ⟨h, gs, dr, t, os⟩ :=
  store_any F.V hx fun _ _ _ V ha hs => q _ _ (F.store V ha hs.extBut)
/- names of the top, by a table -/
structure NameOk (w : World) (x : Str) (v : Value) : Prop where
  run : ∀ {M : Model} {A : Around} {E : Value → Shared → Prop} {env : Env} {g h : Heap} {gs : Array GenState} {dr : Drawn} {t : Nat} {os : OsState} {m : Str → Option Value} {pos : Pos} {Q : Value → Shared → Prop},
    Ex w env m g h → isGlob env x = true → Q v ⟨h, gs, dr, t, os⟩ → wpAny M A (eval (.Name x pos) env) Q E ⟨h, gs, dr, t, os⟩
def globT : List (Str × Value) := [(Str.ofString "get_attr", .ref 28), (Str.ofString "names_of", .ref 33), (Str.ofString "dim_of", .ref 40), (Str.ofString "integer", .ref 113), (Str.ofString "character", .ref 120), (Str.ofString "text_factor", .ref 125), (Str.ofString "unique_texts", .ref 132), (Str.ofString "missing_item", .ref 139), (Str.ofString "missing_rows", .ref 146), (Str.ofString "taken_rows", .ref 156), (Str.ofString "numbered_rows", .ref 161), (Str.ofString "kept_rows", .ref 166), (Str.ofString "unique_heads", .ref 173), (Str.ofString "factor_levels", .ref 178), (Str.ofString "used_levels", .ref 183), (Str.ofString "releveled", .ref 195), (Str.ofString "_law_row", .ref 202), (Str.ofString "_law_next", .ref 209), (Str.ofString "_law_texts", .ref 214), (Str.ofString "_law_factor_told", .ref 219), (Str.ofString "_law_numbered", .ref 224), (Str.ofString "_law_heads", .ref 231), (Str.ofString "_law_kept", .ref 236), (Str.ofString "_law_asked", .ref 243), (Str.ofString "Vector", .ref 102), (Str.ofString "Refusal", .ref 75), (Str.ofString "len", .builtin "len"), (Str.ofString "range", .type "range"), (Str.ofString "list", .type "list"), (Str.ofString "dict", .type "dict"), (Str.ofString "sorted", .builtin "sorted"), (Str.ofString "isinstance", .builtin "isinstance"), (Str.ofString "str", .type "str")]
theorem globs_ok (w : World) : ∀ p ∈ globT, NameOk w p.1 p.2 := by
  unfold globT
  refine List.forall_mem_cons.mpr ⟨⟨fun X hx q => n_get_attr X hx q⟩, ?_⟩
  refine List.forall_mem_cons.mpr ⟨⟨fun X hx q => n_names_of X hx q⟩, ?_⟩
  refine List.forall_mem_cons.mpr ⟨⟨fun X hx q => n_dim_of X hx q⟩, ?_⟩
  refine List.forall_mem_cons.mpr ⟨⟨fun X hx q => n_integer X hx q⟩, ?_⟩
  refine List.forall_mem_cons.mpr ⟨⟨fun X hx q => n_character X hx q⟩, ?_⟩
  refine List.forall_mem_cons.mpr ⟨⟨fun X hx q => n_text_factor X hx q⟩, ?_⟩
  refine List.forall_mem_cons.mpr ⟨⟨fun X hx q => n_unique_texts X hx q⟩, ?_⟩
  refine List.forall_mem_cons.mpr ⟨⟨fun X hx q => n_missing_item X hx q⟩, ?_⟩
  refine List.forall_mem_cons.mpr ⟨⟨fun X hx q => n_missing_rows X hx q⟩, ?_⟩
  refine List.forall_mem_cons.mpr ⟨⟨fun X hx q => n_taken_rows X hx q⟩, ?_⟩
  refine List.forall_mem_cons.mpr ⟨⟨fun X hx q => n_numbered_rows X hx q⟩, ?_⟩
  refine List.forall_mem_cons.mpr ⟨⟨fun X hx q => n_kept_rows X hx q⟩, ?_⟩
  refine List.forall_mem_cons.mpr ⟨⟨fun X hx q => n_unique_heads X hx q⟩, ?_⟩
  refine List.forall_mem_cons.mpr ⟨⟨fun X hx q => n_factor_levels X hx q⟩, ?_⟩
  refine List.forall_mem_cons.mpr ⟨⟨fun X hx q => n_used_levels X hx q⟩, ?_⟩
  refine List.forall_mem_cons.mpr ⟨⟨fun X hx q => n_releveled X hx q⟩, ?_⟩
  refine List.forall_mem_cons.mpr ⟨⟨fun X hx q => n_law_row X hx q⟩, ?_⟩
  refine List.forall_mem_cons.mpr ⟨⟨fun X hx q => n_law_next X hx q⟩, ?_⟩
  refine List.forall_mem_cons.mpr ⟨⟨fun X hx q => n_law_texts X hx q⟩, ?_⟩
  refine List.forall_mem_cons.mpr ⟨⟨fun X hx q => n_law_factor_told X hx q⟩, ?_⟩
  refine List.forall_mem_cons.mpr ⟨⟨fun X hx q => n_law_numbered X hx q⟩, ?_⟩
  refine List.forall_mem_cons.mpr ⟨⟨fun X hx q => n_law_heads X hx q⟩, ?_⟩
  refine List.forall_mem_cons.mpr ⟨⟨fun X hx q => n_law_kept X hx q⟩, ?_⟩
  refine List.forall_mem_cons.mpr ⟨⟨fun X hx q => n_law_asked X hx q⟩, ?_⟩
  refine List.forall_mem_cons.mpr ⟨⟨fun X hx q => n_Vector X hx q⟩, ?_⟩
  refine List.forall_mem_cons.mpr ⟨⟨fun X hx q => n_Refusal X hx q⟩, ?_⟩
  refine List.forall_mem_cons.mpr ⟨⟨fun X hx q => n_len X hx q⟩, ?_⟩
  refine List.forall_mem_cons.mpr ⟨⟨fun X hx q => n_range X hx q⟩, ?_⟩
  refine List.forall_mem_cons.mpr ⟨⟨fun X hx q => n_list X hx q⟩, ?_⟩
  refine List.forall_mem_cons.mpr ⟨⟨fun X hx q => n_dict X hx q⟩, ?_⟩
  refine List.forall_mem_cons.mpr ⟨⟨fun X hx q => n_sorted X hx q⟩, ?_⟩
  refine List.forall_mem_cons.mpr ⟨⟨fun X hx q => n_isinstance X hx q⟩, ?_⟩
  refine List.forall_mem_cons.mpr ⟨⟨fun X hx q => n_str X hx q⟩, ?_⟩
  exact fun _ h => by cases h
theorem x_tab {w : World} {M : Model} {A : Around} {E : Value → Shared → Prop} {env : Env} {g h : Heap} {gs : Array GenState} {dr : Drawn} {t : Nat} {os : OsState} {m : Str → Option Value} {pos : Pos} {Q : Value → Shared → Prop} {x : Str} {v : Value} (X : Ex w env m g h) (hx : isGlob env x = true) (hv : globT.lookup x = some v) (q : Q v ⟨h, gs, dr, t, os⟩) :
    wpAny M A (eval (.Name x pos) env) Q E ⟨h, gs, dr, t, os⟩ := (globs_ok w _ (mem_of_lookup hv)).run X hx q
/- one step of syntax -/
end
local macro_rules | `(tactic| walk_at "s execs") => `(tactic| refine wpAny_execs_cons ?_)
local macro_rules | `(tactic| walk_at "s exec") => `(tactic| first
  | refine wpAny_Return_some ?_
  | refine wpAny_If ?_
  | refine wpAny_Assign_Name ?_ (by with_unfolding_all rfl)
  | refine plainObj_wpAny_Assign_Attribute ?_ (by with_unfolding_all rfl)
  | refine wpAny_Expr_any ?_ (by with_unfolding_all rfl) (by with_unfolding_all rfl))
local macro_rules | `(tactic| walk_at "s eval") => `(tactic| first
  | (show wpAny _ _ (eval (.Name _ _) _) _ _ _; first
      | refine x_loc (by walk_at "X") (by with_unfolding_all rfl) (by walk_at "m") ?_
      | refine x_tab (by walk_at "X") (by with_unfolding_all rfl) (by with_unfolding_all rfl) ?_
      | refine x_cell (by walk_at "X") (by with_unfolding_all rfl) (by walk_at "m") ?_)
  | refine wpAny_Constant_none ?_
  | refine wpAny_Constant_bool ?_
  | (refine k_int ?_; intro _ _)
  | (refine k_str ?_; intro _ _)
  | refine Attribute_any_ ?_
  | refine Subscript_ ?_
  | refine call_name ?_ (by with_unfolding_all rfl) (by with_unfolding_all rfl)
  | refine wpAny_BinOp ?_
  | refine wpAny_IfExp ?_
  | refine wpAny_Compare1 ?_
  | refine wpAny_UnaryOp ?_)
local macro_rules | `(tactic| walk_at "s isTrue") => `(tactic| first
  | refine wpAny_isTrue_Compare1 ?_
  | refine wpAny_isTrue_BoolOp ?_
  | refine wpAny_isTrue_Not ?_
  | refine wpAny_isTrue_value ?_ (by with_unfolding_all rfl))
local macro_rules | `(tactic| walk_at "s allTrue") => `(tactic| first
  | refine wpAny_allTrue_And_cons ?_
  | refine wpAny_allTrue_Or_cons ?_
  | refine wpAny_allTrue_And_nil ?_
  | refine wpAny_allTrue_Or_nil ?_)
local macro_rules | `(tactic| walk_at "s compareOp") => `(tactic| first
  | refine is_none ?_
  | refine isNot_none ?_
  | refine o_eq ?_
  | refine o_ne ?_
  | refine o_lt ?_
  | refine o_gt ?_
  | refine o_ge ?_
  | refine o_seq ?_
  | refine o_sne ?_)
local macro_rules | `(tactic| walk_at "s binaryOp") => `(tactic| first
  | (refine o_add ?_; intro _ _)
  | (refine o_sub ?_; intro _ _))
local macro_rules | `(tactic| walk_at "s spliced") => `(tactic| first
  | refine args_nil ?_
  | refine args_cons ?_ (by with_unfolding_all rfl))
local macro_rules | `(tactic| walk_at "s") => `(tactic| with_reducible first
  | (show wpAny _ _ (eval _ _) _ _ _; walk_at "s eval")
  | (show wpAny _ _ (spliced _) _ _ _; walk_at "s spliced")
  | (show wpAny _ _ (execs _ _) _ _ _; walk_at "s execs")
  | (show wpAny _ _ (exec _ _) _ _ _; walk_at "s exec")
  | (show wpAny _ _ (compareOp _ _ _) _ _ _; walk_at "s compareOp")
  | (show wpAny _ _ (isTrue _ _ _) _ _ _; walk_at "s isTrue")
  | refine wpAny_truthy_bool ?_
  | (show wpAny _ _ (storeName _ _ _) _ _ _; refine store_fn (by assumption) (by with_unfolding_all rfl) ?_; intro _ _ _)
  | (show wpAny _ _ (binaryOp _ _ _) _ _ _; walk_at "s binaryOp")
  | (show wpAny _ _ (allTrue _ _ _) _ _ _; walk_at "s allTrue")
  | (refine o_neg ?_; intro _ _)
  | refine And.intro (a := Kept _ _ _) (by walk_at "kept") ?_)
section
set_option maxRecDepth 100000
open PySem PySem.W PySem.Calls PyProof.Rows
open PySem.SeqAt (EqAt RcAt)

section
variable {w : World} {A : Around} {E : Value → Shared → Prop} {env : Env} {g h : Heap} {gs : Array GenState} {dr : Drawn} {t : Nat} {os : OsState} {m : Str → Option Value} {n : Nat}

theorem noWr (P : Addr → Prop) : ∀ b, NoW b → P b := fun _ f => f.elim

theorem c_get_attr {v : Value} {kind nm : Str} {tk : Tok} {a : Addr} {attrs : Value} {at' : Option (List (Str × Value))} {Q : Value → Shared → Prop} (R : Room A (n+1)) (sub : Sub g h) (W : Wd w g) (hv : VecAt g v kind a attrs) (ha : Att w g attrs at') {r : Value} (hr : (at'.bind (look nm)).getD .none = r)
    (q : ∀ h' t', Grow NoW g h g h' → Q r ⟨h', gs, dr, t', os⟩) : wpAny (model PR w) A (call (.ref 28) [v, .str nm tk]) Q E ⟨h, gs, dr, t, os⟩ := by
  refine call_v (wr := NoW) sub W R.room (f28 w).2 rfl (by kernel_rfl) rfl rfl rfl (.of_eq rfl) rfl (noWr _) fun L h₁ t₁ E' _ F => ?_
  have R' := R.deeper (callEnvC (f28 w).1 L 28)
  repeat walk_at "s"
  refine vec_attrs F.Wh (hv.up F.sub) fun _ => ?_
  repeat walk_at "s"
  cases at' with
  | none =>
    have ha : attrs = .none := ha
    subst ha
    refine ite_t rfl ?_
    repeat walk_at "s"
    subst hr
    exact q _ _ F.gr
  | some kvs =>
    obtain ⟨d, rfl, D⟩ := ha
    refine ite_f rfl ?_
    refine wpAny_execs_nil ?_
    repeat walk_at "s"
    refine call_meth_b PySem.F.plainAttrs_dict PySem.F.slot_dict_get PySem.F.type_dict_get ?_
    repeat walk_at "s"
    refine vec_attrs F.Wh (hv.up F.sub) fun _ => ?_
    refine ⟨Dct.ty (D.up F.sub).1, ?_⟩
    repeat walk_at "s"
    refine d_get (D.up F.sub) fun _ => ?_
    subst hr
    exact q _ _ F.gr

/-- the attribute asked for is a Vector or not there -/
def AVec (w : World) (g : Heap) (at' : Option (List (Str × Value))) (nm : Str) (kind : Str) (xs : List Value) : Prop := ∃ kvs v a2, at' = some kvs ∧ look nm kvs = some v ∧ Vec w g v kind xs a2

theorem c_dim_of {v : Value} {kind : Str} {a : Addr} {attrs : Value} {at' : Option (List (Str × Value))} {Q : Value → Shared → Prop} (R : Room A (n+2)) (sub : Sub g h) (W : Wd w g) (hv : VecAt g v kind a attrs) (ha : Att w g attrs at')
    (hd : (at'.bind (look "dim")).getD .none = .none) (q : ∀ h' t', Grow NoW g h g h' → Q .none ⟨h', gs, dr, t', os⟩) : wpAny (model PR w) A (call (.ref 40) [v]) Q E ⟨h, gs, dr, t, os⟩ := by
  refine call_v (wr := NoW) sub W R.room (f40 w).2 rfl (by kernel_rfl) rfl rfl rfl (.of_eq rfl) rfl (noWr _) fun L h₁ t₁ E' _ F => ?_
  have R' := R.deeper (callEnvC (f40 w).1 L 40)
  repeat walk_at "s"
  refine c_get_attr R' F.sub F.W hv ha hd fun h₂ t₂ G => ?_
  have F := F.step G
  repeat walk_at "s"
  refine ite_t rfl ?_
  repeat walk_at "s"
  exact q _ _ (Fn.gr (by assumption))

/-! ## more of the frame -/
theorem Fn.mutW {wr : Addr → Prop} {g₀ h₀ h' : Heap} {μ : List (Addr × Obj)} {a : Addr} (F : Fn w wr g₀ h₀ env μ m g h) (ha : wr a) (hg : g.get? a = none) (hs : Heap.ExtBut a h h') (hd : ∃ o, h'.get? a = some o) : Fn w wr g₀ h₀ env μ m g h' where
  V := F.V.mono fun b o ob e => hs b o (fun q => F.wrOwn a ha (q ▸ ob)) e
  sub := fun b o e => hs b o (fun q => by rw [q, hg] at e; cases e) (F.sub b o e)
  out := F.out
  W := F.W
  gr := ⟨F.gr.le, fun b o e => hs b o (fun q => by rw [q, hg] at e; cases e) (F.sub b o e), F.gr.new, fun b o nb e => hs b o (fun q => nb (q ▸ ha)) (F.gr.keep b o nb e), fun b e => by
      by_cases hb : b = a
      · obtain ⟨o, q⟩ := hd; rw [hb, q] at e; cases e
      · refine F.gr.dom b ?_
        cases q : h.get? b with
        | none => rfl
        | some o => rw [hs b o hb q] at e; cases e⟩
  new := F.new
  wrn := F.wrn
  led := fun p hp => let ⟨e1, e2, e3, e4⟩ := F.led p hp; ⟨hs _ _ (fun q => F.wrLed hp (q ▸ ha)) e1, e2, e3, e4⟩
  dis := F.dis
theorem Fn.adopt {wr : Addr → Prop} {g₀ h₀ g' h' : Heap} {μ : List (Addr × Obj)} {a : Addr} {o : Obj} (F : Fn w wr g₀ h₀ env μ m g h) (G : Grow NoW g h g' h') (ha : h.get? a = none) (hg : g'.get? a = none) (he : h'.get? a = some o) : Fn w wr g₀ h₀ env ((a, o) :: μ) m g' h' := by
  have F' := F.step0 G
  refine ⟨F'.toEx, F'.gr, F'.new, F'.wrn, fun p hp => ?_, ?_⟩
  · rcases List.mem_cons.mp hp with q | hp
    · rw [q]
      exact ⟨he, hg, F.gr.dom a ha, fun ob => by obtain ⟨o', e⟩ := F.V.there ob; rw [ha] at e; cases e⟩
    · exact F'.led p hp
  · rw [List.map_cons, List.nodup_cons]
    refine ⟨fun q => ?_, F.dis⟩
    obtain ⟨p, hp, e⟩ := List.mem_map.mp q
    have := (F.led p hp).1
    rw [e, ha] at this; cases this

/-! ## a Vector is made -/
theorem init_run {more : List Value} {x dx : Addr} {kind : Str} {tk : Tok} {a : Addr} {attrs : Value} {R : Result → Shared → Prop} (hr : Room A 1) (sub : Sub g h) (W : Wd w g) (hx : h.get? x = some (instObj 102 dx)) (hd : h.get? dx = some emptyDict) (gd : g.get? dx = none)
    (hb : BindsTo ⟨h, gs, dr, t, os⟩ (f92 w).1 ⟨.ref x :: .str kind tk :: .ref a :: more, []⟩ [("self", .ref x), ("kind", .str kind tk), ("items", .ref a), ("attrs", attrs)])
    (q : ∀ h' t' es n, Grow (OnlyW dx) g h g h' → InsAt h' x dx 102 es n → getL "kind" es = some (some (.str kind tk)) → getL "items" es = some (some (.ref a)) → getL "attrs" es = some (some attrs) → es.length < 10 → R (.ok (.ret .none)) ⟨h', gs, dr, t', os⟩) :
    codeAny (model PR w) A (.call (.ref 92) ⟨.ref x :: .str kind tk :: .ref a :: more, []⟩) R ⟨h, gs, dr, t, os⟩ := by
  refine call_fn (wr := OnlyW dx) sub W hr.room (f92 w).2 rfl (by kernel_rfl) rfl rfl rfl hb rfl (fun b e => e ▸ ⟨⟨_, hd⟩, gd⟩) fun L h₁ t₁ K F => ?_
  have I0 : InsAt h₁ x dx 102 [] 0 := ⟨K _ _ hx, K _ _ hd, fun e he => by cases he⟩
  repeat walk_at "s"
  refine set_ins F.Wh.K I0 (by kernel_rfl) (by kernel_rfl) (by kernel_rfl) (by kernel_rfl) (by decide) fun h₂ t₂ k₁ s₁ I1 => ?_
  have F := F.mutW rfl gd s₁.extBut ⟨_, I1.di⟩
  repeat walk_at "s"
  refine set_ins F.Wh.K I1 (by kernel_rfl) (by kernel_rfl) (by kernel_rfl) (by kernel_rfl) (Nat.lt_of_le_of_lt (putL_len _ _ _ _ _) (by decide)) fun h₃ t₃ k₂ s₂ I2 => ?_
  have F := F.mutW rfl gd s₂.extBut ⟨_, I2.di⟩
  repeat walk_at "s"
  have l2 := putL_len "items" (PyData.keyHash w.params "items") (.str "items" k₂) (.ref a) (putL "kind" (PyData.keyHash w.params "kind") (.str "kind" k₁) (.str kind tk) [])
  have l1 := putL_len "kind" (PyData.keyHash w.params "kind") (.str "kind" k₁) (.str kind tk) []
  refine set_ins F.Wh.K I2 (by kernel_rfl) (by kernel_rfl) (by kernel_rfl) (by kernel_rfl) (by simp only [List.length_nil] at l1; omega) fun h₄ t₄ k₃ s₃ I3 => ?_
  have F := F.mutW rfl gd s₃.extBut ⟨_, I3.di⟩
  have l3 := putL_len "attrs" (PyData.keyHash w.params "attrs") (.str "attrs" k₃) attrs (putL "items" (PyData.keyHash w.params "items") (.str "items" k₂) (.ref a) (putL "kind" (PyData.keyHash w.params "kind") (.str "kind" k₁) (.str kind tk) []))
  generalize hE : putL "attrs" (PyData.keyHash w.params "attrs") (.str "attrs" k₃) attrs (putL "items" (PyData.keyHash w.params "items") (.str "items" k₂) (.ref a) (putL "kind" (PyData.keyHash w.params "kind") (.str "kind" k₁) (.str kind tk) [])) = es at l3 I3
  have e1 : getL "kind" es = some (some (.str kind tk)) := by
    rw [← hE, getL_put I2.ks, if_neg (by decide), getL_put I1.ks, if_neg (by decide), getL_put I0.ks, if_pos rfl]
  have e2 : getL "items" es = some (some (.ref a)) := by
    rw [← hE, getL_put I2.ks, if_neg (by decide), getL_put I1.ks, if_pos rfl]
  have e3 : getL "attrs" es = some (some attrs) := by
    rw [← hE, getL_put I2.ks, if_pos rfl]
  simp only [List.length_nil] at l1
  repeat walk_at "s"
  refine set_ins F.Wh.K I3 (by kernel_rfl) (by kernel_rfl) (by kernel_rfl) (by kernel_rfl) (by omega) fun h₅ t₅ k₄ s₄ I4 => ?_
  have F := F.mutW rfl gd s₄.extBut ⟨_, I4.di⟩
  have l4 := putL_len "shared" (PyData.keyHash w.params "shared") (.str "shared" k₄) (.bool false) es
  repeat walk_at "s"
  refine set_ins F.Wh.K I4 (by kernel_rfl) (by kernel_rfl) (by kernel_rfl) (by kernel_rfl) (by omega) fun h₆ t₆ k₅ s₅ I5 => ?_
  have F := F.mutW rfl gd s₅.extBut ⟨_, I5.di⟩
  have l5 := putL_len "loose" (PyData.keyHash w.params "loose") (.str "loose" k₅) (.bool false) (putL "shared" (PyData.keyHash w.params "shared") (.str "shared" k₄) (.bool false) es)
  refine wpAny_execs_nil ?_
  have z : ∀ nm : Str, nm ≠ "loose" → nm ≠ "shared" → getL nm (putL "loose" (PyData.keyHash w.params "loose") (.str "loose" k₅) (.bool false) (putL "shared" (PyData.keyHash w.params "shared") (.str "shared" k₄) (.bool false) es)) = getL nm es := fun nm n1 n2 => by
    rw [getL_put I4.ks, if_neg n1, getL_put I3.ks, if_neg n2]
  exact q _ _ _ _ F.gr I5 ((z _ (by decide) (by decide)).trans e1) ((z _ (by decide) (by decide)).trans e2) ((z _ (by decide) (by decide)).trans e3) (by omega)

theorem binds92_2 {h : Heap} (W : Wd w h) {a b c : Value} : BindsTo ⟨h, gs, dr, t, os⟩ (f92 w).1 ⟨[a, b, c], []⟩ [("self", a), ("kind", b), ("items", c), ("attrs", .none)] :=
  binds_K (s := ⟨h, gs, dr, t, os⟩) W.K rfl rfl rfl rfl rfl
theorem binds92_3 {h : Heap} (W : Wd w h) {a b c d : Value} : BindsTo ⟨h, gs, dr, t, os⟩ (f92 w).1 ⟨[a, b, c, d], []⟩ [("self", a), ("kind", b), ("items", c), ("attrs", d)] := binds_K (s := ⟨h, gs, dr, t, os⟩) W.K rfl rfl rfl rfl rfl

/-- the Vector's own dict stays unfrozen -/
theorem c_make {kind : Str} {tk : Tok} {a : Addr} {more : List Value} {attrs : Value} {Q : Value → Shared → Prop} (R : Room A (n+2)) (sub : Sub g h) (W : Wd w g) (hm : more = [] ∧ attrs = .none ∨ more = [attrs])
    (q : ∀ x dx g' h' t' es n, h.get? x = none → h.get? dx = none → Grow NoW g h g' h' → InsAt h' x dx 102 es n → g'.get? x = some (instObj 102 dx) → g'.get? dx = none → getL "kind" es = some (some (.str kind tk)) → getL "items" es = some (some (.ref a)) → getL "attrs" es = some (some attrs) → es.length < 10 →
      Q (.ref x) ⟨h', gs, dr, t', os⟩) : wpAny (model PR w) A (call (.ref 102) (.str kind tk :: .ref a :: more)) Q E ⟨h, gs, dr, t, os⟩ := by
  have Wh := W.mono sub
  refine wpAny_call ?_
  refine make_core (makes_of Wh.K (by kernel_rfl)) (looks_findIn Wh.K (r := some (.ref 92)) (by kernel_rfl)) (fun self => bind_fn Wh.K self (by kernel_rfl)) (.inl rfl) ?_
  have k : Sub h ((h.push emptyDict).push (instObj 102 h.objs.size)) := fun b o e => Heap.get?_push_of_some _ (Heap.get?_push_of_some _ e)
  have hd : ((h.push emptyDict).push (instObj 102 h.objs.size)).get? h.objs.size = some emptyDict := Heap.get?_push_of_some _ (Heap.get?_push_size _ rfl)
  have hx : ((h.push emptyDict).push (instObj 102 h.objs.size)).get? (h.objs.size+1) = some (instObj 102 h.objs.size) := by heap_get
  generalize (h.push emptyDict).push (instObj 102 h.objs.size) = h1 at k hd hx ⊢
  have fx : h.get? (h.objs.size+1) = none := get_none_of (Nat.le_succ _)
  have fd : h.get? h.objs.size = none := get_none_of (Nat.le_refl _)
  have gn : ∀ b, h.get? b = none → g.get? b = none := fun b e => by
    cases q : g.get? b with
    | none => rfl
    | some o => rw [sub b o q] at e; cases e
  have W1 : Wd w h1 := Wh.mono k
  have rm : Room (A.under (.builtin "type.__call__" ⟨.ref 102 :: .str kind tk :: .ref a :: more, []⟩)) 1 := (R.make _ _ _).less (by omega)
  have fin : ∀ (h' : Heap) (t' : Nat) (es : List DictEntry) (n : Nat), Grow (OnlyW h.objs.size) g h1 g h' → InsAt h' (h.objs.size+1) h.objs.size 102 es n → getL "kind" es = some (some (.str kind tk)) → getL "items" es = some (some (.ref a)) → getL "attrs" es = some (some attrs) → es.length < 10 →
      Q (.ref (h.objs.size+1)) ⟨h', gs, dr, t', os⟩ := by
    intro h' t' es n G I e1 e2 e3 e4
    have kk : Sub h h' := fun b o e => G.keep b o (fun q => by rw [q, fd] at e; cases e) (k b o e)
    have G2 := Grow.made sub kk (fun b => b = h.objs.size + 1) fun b q => q ▸ fx
    refine q _ _ _ h' t' es n fx fd G2 I (plus_at rfl I.ob) ?_ e1 e2 e3 e4
    cases e : (plus g h' fun b => b = h.objs.size + 1).get? h.objs.size with
    | none => rfl
    | some o =>
      rcases plus_new G.sub _ _ e with q | q
      · rw [gn _ fd] at q; cases q
      · exact absurd q (Nat.ne_of_lt (Nat.lt_succ_self _))
  rcases hm with ⟨rfl, rfl⟩ | rfl
  · exact init_run rm (sub.trans k) W hx hd (gn _ fd) (binds92_2 W1) fun h' t' es n G I e1 e2 e3 e4 => ⟨rfl, fin h' t' es n G I e1 e2 e3 e4⟩
  · exact init_run rm (sub.trans k) W hx hd (gn _ fd) (binds92_3 W1) fun h' t' es n G I e1 e2 e3 e4 => ⟨rfl, fin h' t' es n G I e1 e2 e3 e4⟩

/-- a Vector, frozen at once -/
theorem c_vec {kind : Str} {tk : Tok} {a : Addr} {xs : List Value} {more : List Value} {attrs : Value} {at' : Option (List (Str × Value))} {Q : Value → Shared → Prop} (R : Room A (n+2)) (sub : Sub g h) (W : Wd w g) (hl : Lst g a xs) (ha : Att w g attrs at') (hm : more = [] ∧ attrs = .none ∨ more = [attrs])
    (q : ∀ x g' h' t', h.get? x = none → Grow NoW g h g' h' → Vec w g' (.ref x) kind xs at' → Q (.ref x) ⟨h', gs, dr, t', os⟩) : wpAny (model PR w) A (call (.ref 102) (.str kind tk :: .ref a :: more)) Q E ⟨h, gs, dr, t, os⟩ := by
  refine c_make R sub W hm fun x dx g' h' t' es n fx fd G I gx gd e1 e2 e3 e4 => ?_
  have G2 := G.freeze (fun b => b = dx) fun b q => q ▸ fd
  have s2 : Sub g' (plus g' h' fun b => b = dx) := plus_le G.sub
  refine q x _ h' t' fx G2 ⟨a, attrs, ⟨x, dx, es, n, tk, rfl, ⟨s2 _ _ gx, plus_at rfl I.di, I.ks⟩, e1, e2, e3, ?_, e4⟩, hl.up (G.le.trans s2), ha.up (G.le.trans s2)⟩
  cases at' with
  | none => rw [ha]; rfl
  | some kvs => obtain ⟨d, rfl, _⟩ := ha; rfl
end
end
section
set_option maxRecDepth 100000
open PySem PySem.W PySem.Calls PyProof.Rows
open PySem.SeqAt (EqAt RcAt)
section
variable {w : World} {A : Around} {E : Value → Shared → Prop} {env : Env} {g h g₀ h₀ : Heap} {gs : Array GenState} {dr : Drawn} {t : Nat} {os : OsState} {m : Str → Option Value} {n : Nat} {wr : Addr → Prop} {μ : List (Addr × Obj)}
  {K : Type} [DecidableEq K] {knd : KeyKind PR w K}

theorem notSys {d : Addr} (W : Wd w h) (hd : h.objs.size ≤ d) : (d == sysModules) = false := by
  have := Heap.lt_size (W.K _ _ (f28 w).2)
  rw [beq_eq_false_iff_ne]
  intro e
  have h2 : (28 : Nat) < d := Nat.lt_of_lt_of_le this hd
  rw [e] at h2
  exact absurd h2 (by decide)

theorem d_new {pos : Pos} {Q : Value → Shared → Prop} (F : Fn w wr g₀ h₀ env μ m g h)
    (q : ∀ d h' o, Fn w wr g₀ h₀ env ((d, o) :: μ) m g h' → (d == sysModules) = false → o.IsDictOf knd [] → Q (.ref d) ⟨h', gs, dr, t, os⟩) :
    wpAny (model PR w) A (eval (.Dict [] [] pos) env) Q E ⟨h, gs, dr, t, os⟩ := by
  refine wpAny_Dict_empty ?_
  have D : (h.push { cls := .type "dict", data := .dict #[] }).DictOf knd h.objs.size [] := Heap.DictOf.new h
  obtain ⟨o, e, io⟩ := Heap.dictOf_iff.mp D
  exact q _ _ o (F.push (get_none_of (Nat.le_refl _)) (fun b o e => Heap.get?_push_of_some _ e) e) (notSys F.Wh (Nat.le_refl _)) io

theorem d_set1 {d : Addr} {o : Obj} {kvs : List (K × Value)} {k : K} {key v : Value} {Q : Unit → Shared → Prop} (F : Fn w wr g₀ h₀ env ((d, o) :: μ) m g h) (io : o.IsDictOf knd kvs) (hk : knd.is k key = true) (hz : kvs.length ≤ 1000)
    (q : ∀ h' t' o', Fn w wr g₀ h₀ env ((d, o') :: μ) m g h' → o'.IsDictOf knd (stored kvs k v) → Q () ⟨h', gs, dr, t', os⟩) : wpAny (model PR w) A (setItem (.ref d) key v) Q E ⟨h, gs, dr, t, os⟩ := by
  refine wpAny_setItem_pairs (s := ⟨h, gs, dr, t, os⟩) hk (Heap.dictOf_iff.mpr ⟨o, (F.led _ (.head _)).1, io⟩) (fun h' D' S => ?_) (by rw [sizeLine_eq]; omega)
  obtain ⟨o', e', i'⟩ := Heap.dictOf_iff.mp D'
  exact q h' _ o' (F.mut1 S.extBut e') i'
theorem d_set2 {d : Addr} {o : Obj} {p : Addr × Obj} {kvs : List (K × Value)} {k : K} {key v : Value} {Q : Unit → Shared → Prop} (F : Fn w wr g₀ h₀ env (p :: (d, o) :: μ) m g h) (io : o.IsDictOf knd kvs) (hk : knd.is k key = true) (hz : kvs.length ≤ 1000)
    (q : ∀ h' t' o', Fn w wr g₀ h₀ env (p :: (d, o') :: μ) m g h' → o'.IsDictOf knd (stored kvs k v) → Q () ⟨h', gs, dr, t', os⟩) : wpAny (model PR w) A (setItem (.ref d) key v) Q E ⟨h, gs, dr, t, os⟩ :=
  d_set1 F.swap io hk hz fun h' t' o' F' i' => q h' t' o' F'.swap i'

theorem d_item {value slice : Expr} {d : Addr} {kvs : List (K × Value)} {k : K} {key v : Value} {Q : Value → Shared → Prop} (D : h.DictOf knd d kvs) (hk : knd.is k key = true) (hv : valueAt kvs k = some v) (q : ∀ t', Q v ⟨h, gs, dr, t', os⟩)
    (hs : subscripted slice false (.ref d) key = operate [.ref d, key] (getItem (.ref d) key)) : wpAny (model PR w) A (subscriptTail value slice (.ref d) key) Q E ⟨h, gs, dr, t, os⟩ :=
  tail_any (s := ⟨h, gs, dr, t, os⟩) D.mapOf.typeIs slot_dict_getitem.lookup (wpAny_getItem_of hk D.mapOf hv (q _)) hs

theorem d_get2 {d : Addr} {kvs : List (Str × Value)} {n : Str} {tk : Tok} {v : Value} {Q : Value → Shared → Prop} (D : Dct (sK w) h d kvs) (q : ∀ t', Q ((look n kvs).getD v) ⟨h, gs, dr, t', os⟩) : wpAny (model PR w) A (call (.builtin "dict.get") [.ref d, .str n tk, v]) Q E ⟨h, gs, dr, t, os⟩ :=
  call_meetsIn (s := ⟨h, gs, dr, t, os⟩) PySem.F.slot_dict_get D.1.mapOf.typeIs PySem.F.entry_dict_get (PySem.F.args_dict_get_3 _ _ _) (meets_dict_get_default (sK w) d (k := n) (key := .str n tk) (by simp [sK, PySem.strKind, Value.isStrOf]) D.2 v) ⟨_, D.1.mapOf, q _⟩

theorem dictAt_of {d : Addr} {kvs : List (K × Value)} (D : h.DictOf knd d kvs) : ∃ ep, h.DictAt knd d kvs ep := let ⟨o, es, ep, a, b, c, r⟩ := D; ⟨ep, o, es, a, b, c, r⟩

theorem src_dict {d : Addr} {kvs : List (K × Value)} (hh : A.handled = none) (s : Sub g h) (D : Dct knd g d kvs) : Src PR w A g h (.ref d) kvs.length (fun i v => ∃ k x, kvs[i]? = some (k, x) ∧ knd.is k v = true) := fun gs dr t os E Q q => by
  obtain ⟨ep, D'⟩ := dictAt_of D.1
  have Dh : h.DictAt knd d kvs ep := D'.at' fun o e => s _ _ e
  have hlt : d < h.objs.size := by obtain ⟨o, es, e, _⟩ := Dh; exact Heap.lt_size e
  refine wpAny_pyIter_dict (s := ⟨h, gs, dr, t, os⟩) D.2 Dh ?_
  refine q _ _ _ _ _ _ (Walks.dictKeys hh h.objs.size d (Nat.ne_of_lt hlt) kvs ep) ⟨⟨_, Heap.get?_push_size _ rfl, rfl, rfl⟩, Dh.at' fun o e => Heap.get?_push_of_some _ e⟩ (fun i h st => by obtain ⟨o, e, _⟩ := st.1; exact ⟨o, e⟩) (fun b hb => by simpa using hb) (fun b hb => ?_) (fun b o e => Heap.get?_push_of_some _ e) (get_none_of (Nat.le_refl _))
  rcases List.mem_cons.mp hb with rfl | hb
  · exact .inl rfl
  · rw [List.mem_singleton] at hb
    obtain ⟨o, es, e, _⟩ := D'
    exact .inr ⟨o, hb ▸ e⟩

theorem c_list_dict {d : Addr} {kvs : List (Str × Value)} {Q : Value → Shared → Prop} (hh : A.handled = none) (sub : Sub g h) (D : Dct (sK w) h d kvs) (hn : kvs.length ≤ 1000)
    (q : ∀ b g' h' t' ys, h.get? b = none → Grow NoW g h g' h' → Lst g' b ys → ys.map er = kvs.map (fun p => Value.str p.1 0) → Q (.ref b) ⟨h', gs, dr, t', os⟩) : wpAny (model PR w) A (call (.type "list") [.ref d]) Q E ⟨h, gs, dr, t, os⟩ := by
  obtain ⟨ep, D'⟩ := dictAt_of D.1
  refine kdl_call (s := ⟨h, gs, dr, t, os⟩) (kdl_dict (ep := ep) (kvs := kvs) D.2) hh D' (by rw [sizeLine_eq]; omega) fun h' tk acc' c' hk hD hacc => ?_
  have e : acc' = acc'.toList.toArray := by simp
  refine q _ _ _ _ acc'.toList (get_none_of (Nat.le_refl _)) (Grow.made sub hk (fun b => b = h.objs.size) fun b q => q ▸ get_none_of (Nat.le_refl _)) ⟨c', plus_at rfl (by rw [← e]; exact hD)⟩ ?_
  obtain ⟨h1, h2⟩ := hacc
  apply List.ext_getElem?
  intro j
  rw [List.getElem?_map, List.getElem?_map]
  by_cases hj : j < kvs.length
  · have : acc'.toList[j]? = some (acc'.toList[j]'(by simp [h1, hj])) := by simp [h1, hj]
    obtain ⟨k, x, hx, hy⟩ := h2 j _ (by rw [← Array.getElem?_toList]; exact this)
    obtain ⟨tk', ht⟩ := Value.isStrOf_shape (x := k) hy
    rw [this, hx, ht]; rfl
  · rw [List.getElem?_eq_none (by simp [h1]; omega), List.getElem?_eq_none (by omega)]; rfl

/-- dict(d): the copy stays one's own -/
theorem c_dict {d : Addr} {kvs : List (Str × Value)} {Q : Value → Shared → Prop} (F : Fn w wr g₀ h₀ env μ m g h) (D : Dct (sK w) h d kvs) (hn : kvs.length ≤ 1000)
    (q : ∀ b h' o, Fn w wr g₀ h₀ env ((b, o) :: μ) m g h' → (b == sysModules) = false → o.IsDictOf (sK w) kvs → Q (.ref b) ⟨h', gs, dr, t, os⟩) : wpAny (model PR w) A (call (.type "dict") [.ref d]) Q E ⟨h, gs, dr, t, os⟩ := by
  refine kt_call_dict (s := ⟨h, gs, dr, t, os⟩) D.2 D.1 (by rw [sizeLine_eq]; omega) fun h' D' S => ?_
  obtain ⟨o, e, io⟩ := Heap.dictOf_iff.mp D'
  exact q _ _ o (F.push (get_none_of (Nat.le_refl _)) (fun b o e => S.extBut b o (Nat.ne_of_lt (Heap.lt_size e)) (Heap.get?_push_of_some _ e)) e) (notSys F.Wh (Nat.le_refl _)) io

theorem d_len {d : Addr} {kvs : List (K × Value)} {Q : Value → Shared → Prop} (D : Dct knd h d kvs) (hn : kvs.length ≤ 1000) (q : ∀ tk t', Q (.int (kvs.length : Int) tk) ⟨h, gs, dr, t', os⟩) : wpAny (model PR w) A (call (.builtin "len") [.ref d]) Q E ⟨h, gs, dr, t, os⟩ :=
  call_len_dict (s := ⟨h, gs, dr, t, os⟩) D.2 D.1 (by omega) (q _ _)

theorem d_disp1 {n1 : Str} {k1 : Nat} {p1 pos : Pos} {e1 : Expr} {Q : Value → Shared → Prop} (F : Fn w wr g₀ h₀ env μ m g h)
    (hq : ∀ d h₁ t₁, (d == sysModules) = false → Fn w wr g₀ h₀ env ((d, emptyDict) :: μ) m g h₁ → wpAny (model PR w) A (eval e1 env) (fun v₁ s₂ => s₂.heap.get? d = some emptyDict ∧ ∀ h' o', Heap.SameBut d s₂.heap h' → h'.get? d = some o' → o'.IsDictOf (sK w) [(n1, v₁)] → ∀ t', Q (.ref d) ⟨h', s₂.gens, s₂.drawn, t', s₂.os⟩) E ⟨h₁, gs, dr, t₁, os⟩) :
    wpAny (model PR w) A (eval (.Dict [some (.Constant (.str n1) k1 p1)] [e1] pos) env) Q E ⟨h, gs, dr, t, os⟩ := by
  refine wpAny_Dict_pairs (knd := sK w) (s := ⟨h, gs, dr, t, os⟩) (pairs := [(eval (.Constant (.str n1) k1 p1) env, do let x ← eval e1 env; standAt pos; pure x)]) rfl (by simp) (by simp) ?_
  refine evalPairs_cons (k_str fun tk t' => ?_)
  refine wpAny_bind ?_
  have F1 := F.push (a := h.objs.size) (o := emptyDict) (h' := h.push emptyDict) (get_none_of (Nat.le_refl _)) (fun b o e => Heap.get?_push_of_some _ e) (Heap.get?_push_size _ rfl)
  refine wpAny_mono (hq h.objs.size (h.push emptyDict) t' (notSys F.Wh (Nat.le_refl _)) F1) (fun v₁ s₂ q => ?_) fun _ _ z => z
  refine wpAny_bind (wpAny_standAt (wpAny_pure (evalPairs_nil ?_)))
  obtain ⟨qe, q⟩ := q
  refine ⟨[(n1, v₁)], ⟨by simp [sK, PySem.strKind, Value.isStrOf], rfl, trivial⟩, ⟨_, #[], 0, qe, ⟨rfl, rfl, rfl⟩, rfl, fun _ he => by simp at he, Pairs.nil, List.nodup_nil⟩, fun h' D' S => ?_⟩
  obtain ⟨o', e', i'⟩ := Heap.dictOf_iff.mp D'
  exact q h' o' S e' i' _
theorem d_disp2 {n1 n2 : Str} {k1 k2 : Nat} {p1 p2 pos : Pos} {e1 e2 : Expr} {Q : Value → Shared → Prop} (hne : n1 ≠ n2) (F : Fn w wr g₀ h₀ env μ m g h)
    (hq : ∀ d h₁ t₁, (d == sysModules) = false → Fn w wr g₀ h₀ env ((d, emptyDict) :: μ) m g h₁ → wpAny (model PR w) A (eval e1 env) (fun v₁ s₂ => ∀ t₂, wpAny (model PR w) A (eval e2 env) (fun v₂ s₂ => s₂.heap.get? d = some emptyDict ∧ ∀ h' o', Heap.SameBut d s₂.heap h' → h'.get? d = some o' → o'.IsDictOf (sK w) [(n1, v₁), (n2, v₂)] → ∀ t', Q (.ref d) ⟨h', s₂.gens, s₂.drawn, t', s₂.os⟩) E ⟨s₂.heap, s₂.gens, s₂.drawn, t₂, s₂.os⟩) E ⟨h₁, gs, dr, t₁, os⟩) :
    wpAny (model PR w) A (eval (.Dict [some (.Constant (.str n1) k1 p1), some (.Constant (.str n2) k2 p2)] [e1, e2] pos) env) Q E ⟨h, gs, dr, t, os⟩ := by
  refine wpAny_Dict_pairs (knd := sK w) (s := ⟨h, gs, dr, t, os⟩) (pairs := [(eval (.Constant (.str n1) k1 p1) env, do let x ← eval e1 env; standAt pos; pure x), (eval (.Constant (.str n2) k2 p2) env, do let x ← eval e2 env; standAt pos; pure x)]) rfl (by simp) (by simp) ?_
  refine evalPairs_cons (k_str fun tk t' => ?_)
  refine wpAny_bind ?_
  have F1 := F.push (a := h.objs.size) (o := emptyDict) (h' := h.push emptyDict) (get_none_of (Nat.le_refl _)) (fun b o e => Heap.get?_push_of_some _ e) (Heap.get?_push_size _ rfl)
  refine wpAny_mono (hq h.objs.size (h.push emptyDict) t' (notSys F.Wh (Nat.le_refl _)) F1) (fun v₁ s₂ q => ?_) fun _ _ z => z
  obtain ⟨H2, G2, D2, T2, O2⟩ := s₂
  refine wpAny_bind (wpAny_standAt (wpAny_pure (evalPairs_cons (k_str fun tk₂ t₂ => ?_))))
  refine wpAny_bind ?_
  refine wpAny_mono (q t₂) (fun v₂ s₃ q => ?_) fun _ _ z => z
  refine wpAny_bind (wpAny_standAt (wpAny_pure (evalPairs_nil ?_)))
  obtain ⟨qe, q⟩ := q
  refine ⟨[(n1, v₁), (n2, v₂)], ⟨by simp [sK, PySem.strKind, Value.isStrOf], rfl, by simp [sK, PySem.strKind, Value.isStrOf], rfl, trivial⟩, ⟨_, #[], 0, qe, ⟨rfl, rfl, rfl⟩, rfl, fun _ he => by simp at he, Pairs.nil, List.nodup_nil⟩, fun h' D' S => ?_⟩
  have em : merged [] [(n1, v₁), (n2, v₂)] = [(n1, v₁), (n2, v₂)] := by
    simp [merged, stored, hne]
  rw [em] at D'
  obtain ⟨o', e', i'⟩ := Heap.dictOf_iff.mp D'
  exact q h' o' S e' i' _

theorem c_sorted0 {a : Addr} {xs : List Value} {ss : List Str} {Q : Value → Shared → Prop} (sub : Sub g h) (hl : Lst h a xs) (hx : StrsAre xs ss) (h64 : xs.length < 64)
    (q : ∀ b g' h' ys ss', h.get? b = none → Grow NoW g h g' h' → Lst g' b ys → StrsAre ys ss' → ss'.Perm ss → sortedS ss' = true → Q (.ref b) ⟨h', gs, dr, t, os⟩) : wpAny (model PR w) A (call (.builtin "sorted") [.ref a]) Q E ⟨h, gs, dr, t, os⟩ := by
  refine sorted_strs (s := ⟨h, gs, dr, t, os⟩) hl.is hx h64 fun out ss' a1 a2 a3 => ?_
  obtain ⟨e, he⟩ := sortedAll_at h xs out
  have k : Sub h (sortedAll h xs out) := fun b o q => sortedAll_old q
  have hb : h.get? (h.objs.size + 1) = none := get_none_of (Nat.le_succ _)
  exact q _ _ _ out.toList ss' hb (Grow.made sub k (fun b => b = h.objs.size + 1) fun b q => q ▸ hb) ⟨e, plus_at rfl (by simpa using he)⟩ a1 a2 a3

/-! ## comprehensions over flat things -/
theorem tests_nil {cenv : Env} {Q : Bool → Shared → Prop} {s : Shared} (q : Q true s) : wpAny (model PR w) A (testsOf [] cenv) Q E s := wpAny_pure q
theorem tests_one {cenv : Env} {c : Expr} {Q : Bool → Shared → Prop} {s : Shared} (q : wpAny (model PR w) A (isTrue c cenv (eval c cenv)) Q E s) : wpAny (model PR w) A (testsOf [c] cenv) Q E s := by
  unfold testsOf
  rw [List.forIn_cons]
  refine wpAny_bind ?_
  rw [if_pos rfl]
  refine wpAny_bind (wpAny_mono q (fun b s h => wpAny_pure ?_) fun _ _ e => e)
  exact wpAny_pure h

theorem paired_map {α : Type} {ts : List α} {f : α → Value} {n : Nat} (hn : ts.length = n) {p : α → Bool} {ys : List Value} (H : Paired (fun i y => ∃ a, ts[i]? = some a ∧ er y = f a) ((List.range n).filter fun i => (ts[i]?).any p) ys) : ys.map er = (ts.filter p).map f := by
  have key : ∀ (l : List Nat) (ys : List Value), Paired (fun i y => ∃ a, ts[i]? = some a ∧ er y = f a) l ys → ys.map er = l.map fun i => ((ts[i]?).map f).getD .none := by
    intro l ys h
    induction h with
    | nil => rfl
    | cons a _ ih => obtain ⟨x, e1, e2⟩ := a; simp [e1, e2, ih]
  rw [key _ _ H]
  have e : (List.range n).map (fun i => ts[i]?) = ts.map some := by
    apply List.ext_getElem?
    intro j
    rw [List.getElem?_map, List.getElem?_map]
    by_cases hj : j < n
    · rw [List.getElem?_range hj, Option.map_some, List.getElem?_eq_getElem (hn ▸ hj)]; rfl
    · rw [List.getElem?_eq_none (by simpa using hj), List.getElem?_eq_none (by omega)]; rfl
  have e2 : (((List.range n).map (fun i => ts[i]?)).filter fun o => o.any p).map (fun o => (o.map f).getD .none) = ((ts.map some).filter fun o => o.any p).map (fun o => (o.map f).getD .none) := by rw [e]
  rw [List.filter_map, List.filter_map, List.map_map, List.map_map] at e2
  exact e2

theorem comp_gen {elt iter : Expr} {x : Str} {px : Pos} {ifs : List Expr} {scope : Scope} {pos : Pos} {Q : Value → Shared → Prop} {xv : Value} {P : Nat → Value → Prop} (hok : compOk scope env = true)
    (hx : ∀ C, (isLocal (cenvOf scope env C) x || isCellN (cenvOf scope env C) x) = true) (hxc : (clOf env scope.names []).lookup x = none) (F : Fn w wr g₀ h₀ env μ m g h) (S : Src PR w A g h xv n P) (hsz : n ≤ 1000000)
    {α : Type} (ts : List α) (hn : ts.length = n) (p : α → Bool) (f : α → Value)
    (T : ∀ i a C g₁ h₁ t₁ v E', ts[i]? = some a → P i v → Ex w (cenvOf scope env C) (upd (capt (clOf env scope.names []) m) x v) g₁ h₁ → Grow NoW g h g₁ h₁ →
      wpAny (model PR w) A (testsOf ifs (cenvOf scope env C)) (fun ok s₂ => ok = p a ∧ ∃ g₂ h₂ t₂, s₂ = ⟨h₂, gs, dr, t₂, os⟩ ∧ Grow NoW g₁ h₁ g₂ h₂ ∧ (p a = true → wpAny (model PR w) A (eval elt (cenvOf scope env C))
        (fun y s₃ => er y = f a ∧ ∃ g₃ h₃ t₃, s₃ = ⟨h₃, gs, dr, t₃, os⟩ ∧ Grow NoW g₂ h₂ g₃ h₃) E' s₂)) E' ⟨h₁, gs, dr, t₁, os⟩)
    (hQ : ∀ D g' h' t' ys, h.get? D = none → Fn w wr g₀ h₀ env μ m g' h' → Sub g g' → Lst g' D ys → ys.map er = (ts.filter p).map f → Q (.ref D) ⟨h', gs, dr, t', os⟩) :
    CompGoal PR w A E env (.ListComp elt [⟨.Name x px, iter, ifs, 0⟩] scope pos) scope none Q xv ⟨h, gs, dr, t, os⟩ := by
  refine comp_k (wrs := NoW) (Ms := fun _ _ => True) (Y := fun i _ y => ∃ a, ts[i]? = some a ∧ er y = f a) (p := fun i => (ts[i]?).any p) hok hx hxc F.toEx S (by rw [sizeLine_eq]; omega) (fun _ q => q.elim) trivial (fun _ _ _ _ _ => trivial) (fun _ _ _ _ q _ => q) ⟨fun i C g₁ h₁ t₁ v E' hi hP X G _ _ => ?_⟩ fun D g' h' t' ys hD G lD _ hp _ => hQ D g' h' t' ys hD (F.step0 G) G.le lD (paired_map hn hp)
  obtain ⟨a, ha⟩ : ∃ a, ts[i]? = some a := ⟨ts[i], by simp [hn, hi]⟩
  refine wpAny_mono (T i a C g₁ h₁ t₁ v E' ha hP X G) (fun ok s₂ q => ?_) fun _ _ e => e
  obtain ⟨rfl, g₂, h₂, t₂, rfl, G₂, q⟩ := q
  simp only [ha, Option.any_some]
  by_cases hp : p a = true
  · rw [if_pos hp]
    refine ⟨hp, wpAny_mono (q hp) (fun y s₃ z => ?_) fun _ _ e => e⟩
    obtain ⟨e, g₃, h₃, t₃, rfl, G₃⟩ := z
    exact ⟨g₃, h₃, t₃, rfl, G₂.trans G₃, ⟨a, rfl, e⟩, trivial⟩
  · rw [if_neg hp]
    exact ⟨by simpa using hp, g₂, h₂, t₂, rfl, G₂, trivial⟩

theorem comp_gen_a {elt iter : Expr} {x y : Str} {px py : Pos} {ifs : List Expr} {scope : Scope} {pos : Pos} {Q : Value → Shared → Prop} {xv : Value} {P : Nat → Value → Prop} (hok : compOk scope env = true)
    (hx : ∀ C, (isLocal (cenvOf scope env C) x || isCellN (cenvOf scope env C) x) = true) (hxc : (clOf env scope.names []).lookup x = none) (hy : (isLocal env y || isCellN env y) = true) (F : Fn w wr g₀ h₀ env μ m g h) (S : Src PR w A g h xv n P) (hsz : n ≤ 1000000)
    {α : Type} (ts : List α) (hn : ts.length = n) (p : α → Bool) (f : α → Value)
    (T : ∀ i a C g₁ h₁ t₁ v E', ts[i]? = some a → P i v → Ex w (cenvOf scope env C) (upd (capt (clOf env scope.names []) m) x v) g₁ h₁ → Grow NoW g h g₁ h₁ →
      wpAny (model PR w) A (testsOf ifs (cenvOf scope env C)) (fun ok s₂ => ok = p a ∧ ∃ g₂ h₂ t₂, s₂ = ⟨h₂, gs, dr, t₂, os⟩ ∧ Grow NoW g₁ h₁ g₂ h₂ ∧ (p a = true → wpAny (model PR w) A (eval elt (cenvOf scope env C))
        (fun y s₃ => er y = f a ∧ ∃ g₃ h₃ t₃, s₃ = ⟨h₃, gs, dr, t₃, os⟩ ∧ Grow NoW g₂ h₂ g₃ h₃) E' s₂)) E' ⟨h₁, gs, dr, t₁, os⟩)
    (hQ : ∀ D g' h' t' ys, h.get? D = none → Fn w wr g₀ h₀ env μ (upd m y (.ref D)) g' h' → Sub g g' → Lst g' D ys → ys.map er = (ts.filter p).map f → Q .none ⟨h', gs, dr, t', os⟩) :
    CompGoal PR w A E env (.ListComp elt [⟨.Name x px, iter, ifs, 0⟩] scope pos) scope (some (assign (.Name y py) env)) Q xv ⟨h, gs, dr, t, os⟩ := by
  refine comp_ka (wrs := NoW) (Ms := fun _ _ => True) (Y := fun i _ y => ∃ a, ts[i]? = some a ∧ er y = f a) (p := fun i => (ts[i]?).any p) hok hx hxc hy F.toEx S (by rw [sizeLine_eq]; omega) (fun _ q => q.elim) trivial (fun _ _ _ _ _ => trivial) (fun _ _ _ _ q _ => q) ⟨fun i C g₁ h₁ t₁ v E' hi hP X G _ _ => ?_⟩ fun D g' h₁ h' t' ys a hD G lD _ hp _ V ha hs => hQ D g' h' t' ys hD ((F.step0 G).store V ha hs) G.le lD (paired_map hn hp)
  obtain ⟨a, ha⟩ : ∃ a, ts[i]? = some a := ⟨ts[i], by simp [hn, hi]⟩
  refine wpAny_mono (T i a C g₁ h₁ t₁ v E' ha hP X G) (fun ok s₂ q => ?_) fun _ _ e => e
  obtain ⟨rfl, g₂, h₂, t₂, rfl, G₂, q⟩ := q
  simp only [ha, Option.any_some]
  by_cases hp : p a = true
  · rw [if_pos hp]
    refine ⟨hp, wpAny_mono (q hp) (fun y s₃ z => ?_) fun _ _ e => e⟩
    obtain ⟨e, g₃, h₃, t₃, rfl, G₃⟩ := z
    exact ⟨g₃, h₃, t₃, rfl, G₂.trans G₃, ⟨a, rfl, e⟩, trivial⟩
  · rw [if_neg hp]
    exact ⟨by simpa using hp, g₂, h₂, t₂, rfl, G₂, trivial⟩
end
end
section
set_option maxRecDepth 100000
open PySem PySem.W PySem.Calls PyProof.Rows
open PySem.SeqAt (EqAt RcAt)
/-! ## contents, without tokens -/
def eT : Option Str → Value
  | none => .none
  | some s => .str s 0
def eS (s : Str) : Value := .str s 0
def eI (i : Int) : Value := .int i 0
def eO : Option Int → Value
  | none => .none
  | some i => .int i 0
theorem map_at {α : Type} {xs : List Value} {ts : List α} {f : α → Value} (e : xs.map er = ts.map f) {i : Nat} {v : Value} (h : xs[i]? = some v) : ∃ t, ts[i]? = some t ∧ er v = f t := by
  have h1 : (xs.map er)[i]? = some (er v) := by rw [List.getElem?_map, h]; rfl
  rw [e, List.getElem?_map] at h1
  cases q : ts[i]? with
  | none => rw [q] at h1; cases h1
  | some t => rw [q] at h1; exact ⟨t, rfl, (Option.some.inj h1).symm⟩
theorem at_map {α : Type} {xs : List Value} {ts : List α} {f : α → Value} (e : xs.map er = ts.map f) {i : Nat} {t : α} (h : ts[i]? = some t) : ∃ v, xs[i]? = some v ∧ er v = f t := by
  have h1 : (ts.map f)[i]? = some (f t) := by rw [List.getElem?_map, h]; rfl
  rw [← e, List.getElem?_map] at h1
  cases q : xs[i]? with
  | none => rw [q] at h1; cases h1
  | some v => rw [q] at h1; exact ⟨v, rfl, Option.some.inj h1⟩
theorem len_map {α : Type} {xs : List Value} {ts : List α} {f : α → Value} (e : xs.map er = ts.map f) : xs.length = ts.length := by simpa using congrArg List.length e
theorem flat_eT {v : Value} {t : Option Str} (e : er v = eT t) : flat v = true := by
  cases t with
  | none => rw [er_none e]; rfl
  | some s => obtain ⟨_, rfl⟩ := er_str e; rfl
theorem flat_eO {v : Value} {t : Option Int} (e : er v = eO t) : flat v = true := by
  cases t with
  | none => rw [er_none e]; rfl
  | some s => obtain ⟨_, rfl⟩ := er_int e; rfl
theorem flat_eS {v : Value} {t : Str} (e : er v = eS t) : flat v = true := by obtain ⟨_, rfl⟩ := er_str e; rfl
theorem flat_eI {v : Value} {t : Int} (e : er v = eI t) : flat v = true := by obtain ⟨_, rfl⟩ := er_int e; rfl
theorem flats {α : Type} {xs : List Value} {ts : List α} {f : α → Value} (hf : ∀ v t, er v = f t → flat v = true) (e : xs.map er = ts.map f) : ∀ y ∈ xs, flat y = true := fun y hy => by
  obtain ⟨i, hi⟩ := List.mem_iff_getElem?.mp hy
  obtain ⟨t, _, q⟩ := map_at e hi
  exact hf _ _ q

def uniqStep (ks : List Str) : Option Str → List Str
  | none => ks
  | some s => if s ∈ ks then ks else ks ++ [s]
def uniq (ts : List (Option Str)) : List Str := ts.foldl uniqStep []
theorem stored_keys {kvs : List (Str × Value)} {k : Str} {v : Value} : (stored kvs k v).map (·.1) = uniqStep (kvs.map (·.1)) (some k) := by
  show (stored kvs k v).map (·.1) = if k ∈ kvs.map (·.1) then kvs.map (·.1) else kvs.map (·.1) ++ [k]
  unfold stored
  by_cases h : k ∈ kvs.map (·.1)
  · have : kvs.any (fun kv => kv.1 = k) = true := by
      obtain ⟨p, hp, e⟩ := List.mem_map.mp h
      exact List.any_eq_true.mpr ⟨p, hp, by simpa using e⟩
    rw [if_pos this, if_pos h, List.map_map]
    apply List.map_congr_left
    intro p _
    by_cases e : p.1 = k <;> simp [e]
  · have : ¬ (kvs.any (fun kv => kv.1 = k) = true) := fun q => by
      obtain ⟨p, hp, e⟩ := List.any_eq_true.mp q
      exact h (List.mem_map.mpr ⟨p, hp, by simpa using e⟩)
    rw [if_neg this, if_neg h]; simp
theorem take_succ_fold {α β : Type} {ts : List α} {f : β → α → β} {b : β} {i : Nat} {x : α} (h : ts[i]? = some x) : (ts.take (i+1)).foldl f b = f ((ts.take i).foldl f b) x := by
  rw [List.take_add_one, h]; simp
theorem uniq_succ {ts : List (Option Str)} {i : Nat} {x : Option Str} (h : ts[i]? = some x) : uniq (ts.take (i+1)) = uniqStep (uniq (ts.take i)) x := take_succ_fold h
theorem uniq_len (ts : List (Option Str)) : (uniq ts).length ≤ ts.length := by
  unfold uniq
  have : ∀ (ts : List (Option Str)) (ks : List Str), (ts.foldl uniqStep ks).length ≤ ks.length + ts.length := by
    intro ts
    induction ts with
    | nil => intro ks; simp
    | cons t r ih =>
      intro ks
      have h1 := ih (uniqStep ks t)
      have h2 : (uniqStep ks t).length ≤ ks.length + 1 := by
        unfold uniqStep; split
        · omega
        · split <;> simp
      simp only [List.foldl_cons, List.length_cons]; omega
  simpa using this ts []

section
variable {w : World} {A : Around} {E : Value → Shared → Prop} {env : Env} {g h g₀ h₀ : Heap} {gs : Array GenState} {dr : Drawn} {t : Nat} {os : OsState} {m : Str → Option Value} {n : Nat} {wr : Addr → Prop} {μ : List (Addr × Obj)}

theorem c_character {a : Addr} {xs : List Value} {Q : Value → Shared → Prop} (R : Room A (n+3)) (sub : Sub g h) (W : Wd w g) (hl : Lst g a xs) (hn : xs.length ≤ 1000000) (q : ∀ x g' h' t', h.get? x = none → Grow NoW g h g' h' → Vec w g' (.ref x) "character" xs none → Q (.ref x) ⟨h', gs, dr, t', os⟩) :
    wpAny (model PR w) A (call (.ref 120) [.ref a]) Q E ⟨h, gs, dr, t, os⟩ := by
  refine call_v (wr := NoW) sub W R.room (f120 w).2 rfl (by kernel_rfl) rfl rfl rfl (.of_eq rfl) rfl (noWr _) fun L h₁ t₁ E' _ F => ?_
  have R' := R.deeper (callEnvC (f120 w).1 L 120)
  repeat walk_at "s"
  refine c_list F.sub (hl.up F.sub) hn fun b g₂ h₂ hb G lb => ?_
  have F := F.step0 G
  repeat walk_at "s"
  refine c_vec (at' := none) R' F.sub F.W lb rfl (.inl ⟨rfl, rfl⟩) fun x g₃ h₃ t₃ hx G v => ?_
  exact q x _ _ _ (F.gr.dom _ hx) (F.step0 G).gr v

theorem c_unique {a : Addr} {xs : List Value} {ts : List (Option Str)} {Q : Value → Shared → Prop} (R : Room A (n+1)) (sub : Sub g h) (W : Wd w g) (hl : Lst g a xs) (hx : xs.map er = ts.map eT) (hn : ts.length ≤ 100)
    (q : ∀ b g' h' t' ys, h.get? b = none → Grow NoW g h g' h' → Lst g' b ys → ys.map er = (uniq ts).map eS → Q (.ref b) ⟨h', gs, dr, t', os⟩) :
    wpAny (model PR w) A (call (.ref 132) [.ref a]) Q E ⟨h, gs, dr, t, os⟩ := by
  refine call_v (wr := NoW) sub W R.room (f132 w).2 rfl (by kernel_rfl) rfl rfl rfl (.of_eq rfl) rfl (noWr _) fun L h₁ t₁ E' _ F => ?_
  have R' := R.deeper (callEnvC (f132 w).1 L 132)
  have len := len_map hx
  repeat walk_at "s"
  refine d_new (knd := sK w) F fun d h₂ o F hs io => ?_
  repeat walk_at "s"
  rename_i h₃ t₃ F
  refine for_stmt ?_
  repeat walk_at "s"
  refine for_k rfl F (src_list R'.hd F.sub hl) (fun i μ m g => ∃ o kvs, μ = [(d, o)] ∧ o.IsDictOf (sK w) kvs ∧ kvs.map (·.1) = uniq (ts.take i) ∧ m "seen" = some (.ref d)) ⟨o, [], rfl, io, rfl, rfl⟩
    (fun i p μ' m' g' h' t' v hi hv inv F le => ?_) (fun μ' m' g' h' t' F le inv => ?_)
  · obtain ⟨o, kvs, rfl, io, hk, hm⟩ := inv
    obtain ⟨t, ht, hv⟩ := map_at hx hv
    repeat walk_at "s"
    cases t with
    | none =>
      obtain rfl := er_none hv
      refine ite_f rfl ?_
      refine wpAny_execs_nil (wpAny_execs_nil ?_)
      refine ⟨_, _, _, _, _, rfl, F, Sub.refl, o, kvs, rfl, io, ?_, hm⟩
      rw [hk]; exact (uniq_succ ht).symm
    | some x =>
      obtain ⟨tk, rfl⟩ := er_str hv
      refine ite_t rfl ?_
      refine wpAny_execs_cons (wpAny_Assign_Subscript ?_)
      repeat walk_at "s"
      refine d_set2 F io (k := x) (by simp [sK, PySem.strKind, Value.isStrOf]) ?_ fun h₄ t₄ o₄ F io => ?_
      · have := uniq_len (ts.take i)
        rw [← hk, List.length_map, List.length_take] at this; omega
      refine wpAny_execs_nil (wpAny_execs_nil ?_)
      refine ⟨_, _, _, _, _, rfl, F, Sub.refl, o₄, _, rfl, io, ?_, by walk_at "m"⟩
      rw [stored_keys, hk]; exact (uniq_succ ht).symm
  · obtain ⟨o, kvs, rfl, io, hk, hm⟩ := inv
    repeat walk_at "s"
    obtain ⟨F, hd, _⟩ := F.freeze
    have hkl : kvs.length ≤ 100 := by
      have := uniq_len (ts.take xs.length)
      rw [← hk, List.length_map, List.length_take] at this; omega
    refine c_list_dict R'.hd F.sub (d := d) (kvs := kvs) ⟨Heap.dictOf_iff.mpr ⟨o, F.sub _ _ hd, io⟩, hs⟩ (by omega) fun b g' h' t' ys hb G lb e => ?_
    refine q b _ _ _ ys (F.gr.dom _ hb) (F.step0 G).gr lb ?_
    rw [e, ← List.take_length (l := ts), ← len, ← hk, List.map_map]; rfl
end
end
section
set_option maxRecDepth 100000
set_option maxHeartbeats 4000000
open PySem PySem.W PySem.Calls PyProof.Rows
open PySem.SeqAt (EqAt RcAt)
theorem strsAre_er : ∀ {xs : List Value} {ss : List Str}, xs.map er = ss.map eS → StrsAre xs ss
  | [], [], _ => .nil
  | [], _ :: _, h => by simp at h
  | _ :: _, [], h => by simp at h
  | x :: xs, s :: ss, h => by
    simp only [List.map_cons, List.cons.injEq] at h
    obtain ⟨tk, rfl⟩ := er_str h.1
    exact .cons s tk (strsAre_er h.2)
theorem er_strsAre : ∀ {xs : List Value} {ss : List Str}, StrsAre xs ss → xs.map er = ss.map eS
  | _, _, .nil => rfl
  | _, _, .cons s tk h => by simp [er, eS, er_strsAre h]

def Fac (w : World) (g : Heap) (v : Value) (cs : List (Option Int)) (lev : List Str) : Prop := ∃ ys lv cv ls cls, Vec w g v "integer" ys (some [("levels", lv), ("class", cv)]) ∧ ys.map er = cs.map eO ∧ Vec w g lv "character" ls none ∧ ls.map er = lev.map eS ∧ Vec w g cv "character" cls none ∧ cls.map er = [eS "factor"]
theorem Fac.up {w : World} {g h : Heap} {v : Value} {cs : List (Option Int)} {lev : List Str} (x : Fac w g v cs lev) (s : Sub g h) : Fac w h v cs lev :=
  let ⟨a, b, c, d, e, f1, f2, f3, f4, f5, f6⟩ := x; ⟨a, b, c, d, e, f1.up s, f2, f3.up s, f4, f5.up s, f6⟩

theorem valueAt_stored {K : Type} [DecidableEq K] {kvs : List (K × Value)} {k k' : K} {v : Value} : valueAt (stored kvs k v) k' = if k' = k then some v else valueAt kvs k' := by
  unfold stored valueAt
  by_cases ha : kvs.any (fun kv => kv.1 = k) = true
  · rw [if_pos ha, List.find?_map]
    have e : ((fun kv : K × Value => decide (kv.1 = k')) ∘ fun kv => if kv.1 = k then (kv.1, v) else kv) = fun kv => decide (kv.1 = k') := by
      funext p; simp only [Function.comp]; split <;> rfl
    rw [e]
    cases hf : kvs.find? (fun kv => decide (kv.1 = k')) with
    | none =>
      have hk : ¬ (k' = k) := by
        rintro rfl
        obtain ⟨p, hp, q⟩ := List.any_eq_true.mp ha
        exact (List.find?_eq_none.mp hf p hp) q
      rw [if_neg hk]; rfl
    | some p =>
      have hp : p.1 = k' := by simpa using List.find?_some hf
      by_cases hk : k' = k
      · rw [if_pos hk]; simp [hp, hk]
      · rw [if_neg hk]; simp [hp, hk]
  · rw [if_neg ha, List.find?_append]
    by_cases hk : k' = k
    · subst hk
      have : kvs.find? (fun kv => kv.1 = k') = none := by
        rw [List.find?_eq_none]; intro p hp e; exact ha (List.any_eq_true.mpr ⟨p, hp, e⟩)
      simp [this]
    · have h1 : ¬ (k = k') := fun e => hk e.symm
      simp [hk, h1]

theorem mem_uniq {ts : List (Option Str)} {s : Str} : s ∈ uniq ts ↔ some s ∈ ts := by
  have : ∀ (ts : List (Option Str)) (ks : List Str), s ∈ ts.foldl uniqStep ks ↔ s ∈ ks ∨ some s ∈ ts := by
    intro ts
    induction ts with
    | nil => intro ks; simp
    | cons t r ih =>
      intro ks
      rw [List.foldl_cons, ih]
      have : s ∈ uniqStep ks t ↔ s ∈ ks ∨ some s = t := by
        cases t with
        | none => simp [uniqStep]
        | some u =>
          show s ∈ (if u ∈ ks then ks else ks ++ [u]) ↔ _
          split
          · rename_i h; constructor
            · exact .inl
            · rintro (h1 | h1)
              · exact h1
              · cases h1; exact h
          · simp
      rw [this, List.mem_cons, or_assoc]
  have := this ts []
  simpa [uniq] using this
theorem nodup_inj {α : Type} {l : List α} (hn : l.Nodup) {i j : Nat} {x : α} (hi : l[i]? = some x) (hj : l[j]? = some x) : i = j := by
  obtain ⟨h1, e1⟩ := List.getElem?_eq_some_iff.mp hi
  obtain ⟨h2, e2⟩ := List.getElem?_eq_some_iff.mp hj
  have P := List.pairwise_iff_getElem.mp hn
  rcases Nat.lt_trichotomy i j with h | h | h
  · exact absurd (e1.trans e2.symm) (P i j h1 h2 h)
  · exact h
  · exact absurd (e2.trans e1.symm) (P j i h2 h1 h)
theorem uniq_nodup (ts : List (Option Str)) : (uniq ts).Nodup := by
  have : ∀ (ts : List (Option Str)) (ks : List Str), ks.Nodup → (ts.foldl uniqStep ks).Nodup := by
    intro ts
    induction ts with
    | nil => intro ks h; exact h
    | cons t r ih =>
      intro ks h
      refine ih _ ?_
      cases t with
      | none => exact h
      | some s =>
        show (if s ∈ ks then ks else ks ++ [s]).Nodup
        split
        · exact h
        · rename_i hs
          rw [List.nodup_append]
          exact ⟨h, by simp, fun a ha b hb e => by simp at hb; subst hb; subst e; exact hs ha⟩
  exact this ts [] List.nodup_nil

section
variable {w : World} {A : Around} {E : Value → Shared → Prop} {env : Env} {g h g₀ h₀ : Heap} {gs : Array GenState} {dr : Drawn} {t : Nat} {os : OsState} {m : Str → Option Value} {n : Nat} {wr : Addr → Prop} {μ : List (Addr × Obj)}

theorem c_text_factor {v : Value} {kind : Str} {a : Addr} {attrs : Value} {xs : List Value} {ts : List (Option Str)} {Q : Value → Shared → Prop} (R : Room A (n+5)) (sub : Sub g h) (W : Wd w g) (hv : VecAt g v kind a attrs) (hl : Lst g a xs) (hx : xs.map er = ts.map eT) (hn : ts.length ≤ 20)
    (q : ∀ x g' h' t' lev, h.get? x = none → Grow NoW g h g' h' → lev.Perm (uniq ts) → sortedS lev = true → Fac w g' (.ref x) (ts.map fun o => o.map fun s => ((lev.idxOf s : Nat) : Int) + 1) lev → Q (.ref x) ⟨h', gs, dr, t', os⟩) :
    wpAny (model PR w) A (call (.ref 125) [v]) Q E ⟨h, gs, dr, t, os⟩ := by
  refine call_v (wr := NoW) sub W R.room (f125 w).2 rfl (by kernel_rfl) rfl rfl rfl (.of_eq rfl) rfl (noWr _) fun L h₁ t₁ E' _ F => ?_
  have R' := R.deeper (callEnvC (f125 w).1 L 125)
  have len := len_map hx
  repeat walk_at "s"
  refine comp_expr rfl ?_
  repeat walk_at "s"
  refine vec_items F.Wh (hv.up F.sub) fun _ => ?_
  repeat walk_at "s"
  refine c_unique R' F.sub F.W hl hx (by omega) fun b g₂ h₂ t₂ us hb G lu eu => ?_
  have hu := uniq_len ts
  have lenu := len_map eu
  have F := F.step0 G
  refine comp_gen rfl (fun _ => rfl) rfl F (src_list R'.hd F.sub lu) (by omega) (uniq ts) lenu.symm (fun _ => true) eS (fun i a C g₁ h₁ t₁ v E' ha hP X G => ?_) fun D g₃ h₃ t₃ ys hD F le lD eD => ?_
  · refine tests_nil ⟨rfl, _, _, _, rfl, Grow.refl X.sub, fun _ => ?_⟩
    repeat walk_at "s"
    obtain ⟨a', ha', e⟩ := map_at eu hP
    rw [ha] at ha'; cases ha'
    exact ⟨e, _, _, _, rfl, Grow.refl X.sub⟩
  rw [List.filter_eq_self.mpr (fun _ _ => rfl)] at eD
  repeat walk_at "s"
  refine c_sorted0 F.sub (lD.up F.sub) (strsAre_er eD) (by rw [len_map eD]; omega) fun b₂ g₃ h₃ ls lev hb G ll hs hperm hsort => ?_
  have el := er_strsAre hs
  have lenl : ls.length = lev.length := len_map el
  have hlev : lev.length ≤ 20 := by rw [hperm.length_eq]; omega
  have F := F.step0 G
  have hnd : lev.Nodup := hperm.nodup_iff.mpr (uniq_nodup ts)
  repeat walk_at "s"
  rename_i F
  refine d_new (knd := sK w) F fun d h₄ o F hsy io => ?_
  repeat walk_at "s"
  refine for_stmt ?_
  repeat walk_at "s"
  rename_i F
  refine l_len (ll.up F.sub) (by omega) fun _ _ => ?_
  repeat walk_at "s"
  refine r_range F.sub fun r g₅ h₅ t₅ x y z hr G hrr => ?_
  have le₅ := G.le
  have F := F.step0 G
  refine for_k rfl F (src_range R'.hd (by omega) hrr) (fun i μ m g => ∃ o kvs, μ = [(d, o)] ∧ o.IsDictOf (sK w) kvs ∧ kvs.length ≤ i ∧ (∀ j s, j < i → lev[j]? = some s → ∃ tk, valueAt kvs s = some (.int ((j : Int) + 1) tk)) ∧ m "codes" = some (.ref d) ∧ m "levels" = some (.ref b₂) ∧ m "v" = some v) ⟨o, [], rfl, io, Nat.le_refl _, (fun _ _ h => absurd h (Nat.not_lt_zero _)), rfl, rfl, rfl⟩
    (fun i p μ' m' g' h' t' v hi hv inv F le => ?_) (fun μ' m' g' h' t' F le inv => ?_)
  · obtain ⟨o, kvs, rfl, io, hk, hc, hm1, hm2, hm3⟩ := inv
    obtain ⟨tv, rfl⟩ := hv
    refine wpAny_execs_cons (wpAny_Assign_Subscript ?_)
    repeat walk_at "s"
    obtain ⟨sv, hsv⟩ : ∃ s, lev[i]? = some s := ⟨lev[i], by simp [← lenl, hi]⟩
    obtain ⟨lv, hlv, elv⟩ := at_map el hsv
    obtain ⟨tk, rfl⟩ := er_str elv
    refine l_item (((ll.up le₅).up le).up F.sub) rfl hlv (by omega) ?_ (by with_unfolding_all rfl)
    refine d_set2 F io (k := sv) (by simp [sK, PySem.strKind, Value.isStrOf]) (by omega) fun h₄ t₄ o₄ F io => ?_
    refine wpAny_execs_nil ?_
    refine ⟨_, _, _, _, _, rfl, F, Sub.refl, o₄, _, rfl, io, Nat.le_trans (stored_length_le _ _ _) (Nat.succ_le_succ hk), fun j s hj hs => ?_, by walk_at "m", by walk_at "m", by walk_at "m"⟩
    rw [valueAt_stored]
    by_cases hji : j = i
    · subst hji; rw [hsv] at hs; cases hs; rw [if_pos rfl]; exact ⟨_, rfl⟩
    · have hne : s ≠ sv := fun e => by
        subst e
        exact hji (nodup_inj hnd hs hsv)
      rw [if_neg hne]
      exact hc j s (by omega) hs
  · obtain ⟨o, kvs, rfl, io, hk, hc, hm1, hm2, hm3⟩ := inv
    obtain ⟨F, hd, le₆⟩ := F.freeze
    rw [lenl] at hc
    repeat walk_at "s"
    refine comp_assign rfl rfl ?_
    repeat walk_at "s"
    refine vec_items F.Wh (hv.up (by walk_at "up")) fun _ => ?_
    have F0 := F
    refine comp_gen_a rfl (fun _ => rfl) rfl rfl F (src_list R'.hd F.sub (hl.up (by walk_at "up"))) (by omega) ts len.symm (fun _ => true) (fun o => eO (o.map fun s => ((lev.idxOf s : Nat) : Int) + 1)) (fun i a C g₁ h₁ t₁ v E' ha hP X G => ?_) fun D g₆ h₆ t₆ is hD F le₇ lD eD => ?_
    · obtain ⟨a', ha', e⟩ := map_at hx hP
      rw [ha] at ha'; cases ha'
      refine tests_nil ⟨rfl, _, _, _, rfl, Grow.refl X.sub, fun _ => ?_⟩
      repeat walk_at "s"
      cases a with
      | none =>
        obtain rfl := er_none e
        refine ite_t rfl ?_
        repeat walk_at "s"
        exact ⟨rfl, _, _, _, rfl, Grow.refl X.sub⟩
      | some sv =>
        obtain ⟨tk, rfl⟩ := er_str e
        refine ite_f rfl ?_
        repeat walk_at "s"
        have hmem : sv ∈ lev := hperm.mem_iff.mpr (mem_uniq.mpr (List.mem_of_getElem? ha))
        obtain ⟨tk', hva⟩ := hc (lev.idxOf sv) sv (List.idxOf_lt_length_iff.mpr hmem) (by rw [List.getElem?_eq_getElem (List.idxOf_lt_length_iff.mpr hmem)]; simp)
        refine d_item (knd := sK w) (k := sv) (Heap.dictOf_iff.mpr ⟨o, X.sub _ _ (G.le _ _ hd), io⟩) (by simp [sK, PySem.strKind, Value.isStrOf]) hva (fun _ => ?_) (by with_unfolding_all rfl)
        exact ⟨rfl, _, _, _, rfl, Grow.refl X.sub⟩
    rw [List.filter_eq_self.mpr (fun _ _ => rfl)] at eD
    repeat walk_at "s"
    refine d_disp2 (by decide) F fun d₂ h₇ t₇ hsy₂ F => ?_
    repeat walk_at "s"
    refine c_character R' F.sub F.W (ll.up (by walk_at "up")) (by omega) fun x₁ g₈ h₈ t₈ hx₁ G V₁ => ?_
    have F := F.step0 G
    intro t₉
    repeat walk_at "s"
    refine l_display ?_
    repeat walk_at "s"
    refine ⟨by simp, _, _, _, rfl, F.sub, fun a₉ g₉ h₉ ha₉ G l₉ => ?_⟩
    have F := F.step0 G
    have le₉ := G.le
    repeat walk_at "s"
    refine c_character R' F.sub F.W l₉ (by simp) fun x₂ g₁₀ h₁₀ t₁₀ hx₂ G V₂ => ?_
    have F := F.step0 G
    refine ⟨(F.led _ (.head _)).1, fun h₁₁ o₂ S e₂ i₂ t₁₁ => ?_⟩
    have F := F.mut1 S.extBut e₂
    obtain ⟨F, hd₂, le₁₁⟩ := F.freeze
    repeat walk_at "s"
    have D₂ : Dct (sK w) (plus g₁₀ h₁₁ fun b => b = d₂) d₂ [("levels", .ref x₁), ("class", .ref x₂)] := ⟨Heap.dictOf_iff.mpr ⟨o₂, hd₂, i₂⟩, hsy₂⟩
    refine c_vec (at' := some [("levels", .ref x₁), ("class", .ref x₂)]) R' F.sub F.W (lD.up (by walk_at "up")) ⟨d₂, rfl, D₂⟩ (.inr rfl) fun x g₁₂ h₁₂ t₁₂ hx G V => ?_
    refine q x _ _ _ lev (F.gr.dom _ hx) (F.step0 G).gr hperm hsort ⟨is, _, _, ls, _, V, ?_, V₁.up (by walk_at "up"), el, V₂.up (by walk_at "up"), rfl⟩
    rw [eD, List.map_map]; rfl
end
end
section
set_option maxRecDepth 100000
set_option maxHeartbeats 4000000
open PySem PySem.W PySem.Calls PyProof.Rows
open PySem.SeqAt (EqAt RcAt)
/-- a column's item: missing or not -/
def Cell (g : Heap) (kind : Str) (x : Value) (b : Bool) : Prop :=
  (x = .none ∧ b = true) ∨ (∃ n t, x = .int n t ∧ (kind == "double") = false ∧ b = false) ∨ (∃ r p q tp tq, x = .ref r ∧ (kind == "double") = true ∧ g.IsTuple r #[.int p tp, .int q tq] ∧ b = (p == 0 && q == 0))
theorem Cell.up {g h : Heap} {kind : Str} {x : Value} {b : Bool} (c : Cell g kind x b) (s : Sub g h) : Cell h kind x b := by
  rcases c with c | c | ⟨r, p, q, tp, tq, e, k, ⟨o, a, z⟩, eb⟩
  · exact .inl c
  · exact .inr (.inl c)
  · exact .inr (.inr ⟨r, p, q, tp, tq, e, k, ⟨o, s _ _ a, z⟩, eb⟩)
theorem tup2_all {e : Nat → Bool} {a b c d : Value} : ((List.range (min #[a, b].size #[c, d].size)).all e && #[a, b].size == #[c, d].size) = (e 0 && e 1) := by
  show ((List.range 2).all e && true) = _
  simp [List.range, List.range.loop]
def Col (w : World) (g : Heap) (v : Value) (bs : List Bool) : Prop := ∃ kind a attrs xs, VecAt g v kind a attrs ∧ Lst g a xs ∧ xs.length = bs.length ∧ ∀ (i : Nat) x b, xs[i]? = some x → bs[i]? = some b → Cell g kind x b
theorem Col.up {w : World} {g h : Heap} {v : Value} {bs : List Bool} (c : Col w g v bs) (s : Sub g h) : Col w h v bs := let ⟨k, a, t, xs, h1, h2, h3, h4⟩ := c; ⟨k, a, t, xs, h1.up s, h2.up s, h3, fun i x b e1 e2 => (h4 i x b e1 e2).up s⟩
def Cols (w : World) (g : Heap) (vs : List Value) (cols : List (List Bool)) : Prop := vs.length = cols.length ∧ ∀ (i : Nat) v bs, vs[i]? = some v → cols[i]? = some bs → Col w g v bs
theorem Cols.up {w : World} {g h : Heap} {vs : List Value} {cols : List (List Bool)} (c : Cols w g vs cols) (s : Sub g h) : Cols w h vs cols := ⟨c.1, fun i v bs h1 h2 => (c.2 i v bs h1 h2).up s⟩
def poorAt (cols : List (List Bool)) (p : Nat) : Bool := cols.any fun bs => bs[p]?.getD false
section
variable {w : World} {A : Around} {E : Value → Shared → Prop} {env : Env} {g h g₀ h₀ : Heap} {gs : Array GenState} {dr : Drawn} {t : Nat} {os : OsState} {m : Str → Option Value} {n : Nat} {wr : Addr → Prop} {μ : List (Addr × Obj)}

theorem rc_pair {s : Shared} {r r2 : Addr} {p q p2 q2 : Int} {a b c d : Tok} (hl : s.heap.IsTuple r #[.int p a, .int q b]) (hb : s.heap.IsTuple r2 #[.int p2 c, .int q2 d]) (hu : A.units < cLine) : RcAt A s (.ref r) (.ref r2) (p == p2 && q == q2) := by
  have := RcAt.tuples (e := fun j => if j = 0 then p == p2 else q == q2) hl hb hu (fun j h1 h2 => by
    match j, h1 with
    | 0, _ => exact EqAt.int_int _ _ _ _
    | 1, _ => exact EqAt.int_int _ _ _ _)
  rw [tup2_all] at this
  exact this

theorem c_missing_item {kind : Str} {tk : Tok} {x : Value} {b : Bool} {Q : Value → Shared → Prop} (R : Room A (n+1)) (sub : Sub g h) (W : Wd w g) (c : Cell g kind x b)
    (q : ∀ g' h' t', Grow NoW g h g' h' → Q (.bool b) ⟨h', gs, dr, t', os⟩) : wpAny (model PR w) A (call (.ref 139) [.str kind tk, x]) Q E ⟨h, gs, dr, t, os⟩ := by
  refine call_v (wr := NoW) sub W R.room (f139 w).2 rfl (by kernel_rfl) rfl rfl rfl (.of_eq rfl) rfl (noWr _) fun L h₁ t₁ E' _ F => ?_
  have R' := R.deeper (callEnvC (f139 w).1 L 139)
  repeat walk_at "s"
  refine wpAny_Or2 ?_
  repeat walk_at "s"
  rcases c with ⟨rfl, rfl⟩ | ⟨n, tn, rfl, hk, rfl⟩ | ⟨r, p, q', tp, tq, rfl, hk, ht, rfl⟩
  · refine ite_t rfl ?_
    exact q _ _ _ F.gr
  · refine ite_f rfl ?_
    refine wpAny_And2 ?_
    repeat walk_at "s"
    refine ite_f hk ?_
    rw [hk]
    exact q _ _ _ F.gr
  · refine ite_f rfl ?_
    refine wpAny_And2 ?_
    repeat walk_at "s"
    refine ite_t hk ?_
    repeat walk_at "s"
    refine t_display ?_
    repeat walk_at "s"
    refine ⟨by simp, _, _, _, rfl, F.sub, fun a₉ g₉ h₉ ha₉ G l₉ => ?_⟩
    have F := F.step0 G
    have ht' : g₉.IsTuple r #[.int p tp, .int q' tq] := let ⟨o, a, z⟩ := ht; ⟨o, G.le _ _ a, z⟩
    have up : ∀ {a : Addr} {xs : Array Value}, g₉.IsTuple a xs → h₉.IsTuple a xs := fun ⟨o, a, z⟩ => ⟨o, F.sub _ _ a, z⟩
    exact rc_pair (s := ⟨h₉, gs, dr, _, os⟩) (up ht') (up l₉) R'.units PR w _ _ (q _ _ _ F.gr)

theorem Fn.mutN (l1 : List (Addr × Obj)) {l2 : List (Addr × Obj)} {h' : Heap} {a : Addr} {o o' : Obj} (F : Fn w wr g₀ h₀ env (l1 ++ (a, o) :: l2) m g h) (hs : Heap.ExtBut a h h') (he : h'.get? a = some o') : Fn w wr g₀ h₀ env (l1 ++ (a, o') :: l2) m g h' := by
  have hm : (a, o) ∈ l1 ++ (a, o) :: l2 := List.mem_append.mpr (.inr (.head _))
  obtain ⟨e1, e2, e3, e4⟩ := F.led _ hm
  have hd := F.dis
  have hd' : ((l1 ++ (a, o') :: l2).map (·.1)).Nodup := by simpa using hd
  refine F.mut hs e3 e2 (F.V.mono fun b ob oo e => hs b ob (fun q => e4 (q ▸ oo)) e) (fun p hp => ?_) hd'
  rw [List.map_append, List.nodup_append, List.map_cons, List.nodup_cons] at hd
  obtain ⟨_, ⟨n1, _⟩, n2⟩ := hd
  rcases List.mem_append.mp hp with hp | hp
  · exact .inr ⟨n2 p.1 (List.mem_map_of_mem (f := (·.1)) hp) a (.head _), List.mem_append.mpr (.inl hp)⟩
  · rcases List.mem_cons.mp hp with q | hp
    · exact .inl ⟨by rw [q], by rw [q]; exact he, e4⟩
    · exact .inr ⟨fun q => n1 (q ▸ List.mem_map_of_mem (f := (·.1)) hp), List.mem_append.mpr (.inr (.tail _ hp))⟩

theorem l_itemI {value slice : Expr} {a : Addr} {xs : List Value} {i : Nat} {k : Int} {u : Tok} {v : Value} {Q : Value → Shared → Prop} (hl : h.IsList a xs.toArray) (hk : k = (i : Int)) (hx : xs[i]? = some v) (hfit : xs.length ≤ 1000000) (q : Q v ⟨h, gs, dr, t, os⟩)
    (hs : subscripted slice false (.ref a) (.int k u) = operate [.ref a, .int k u] (getItem (.ref a) (.int k u))) : wpAny (model PR w) A (subscriptTail value slice (.ref a) (.int k u)) Q E ⟨h, gs, dr, t, os⟩ := by
  subst hk
  have hlt : i < xs.length := (List.getElem?_eq_some_iff.mp hx).1
  exact tail_any (s := ⟨h, gs, dr, t, os⟩) hl.typeIs slot_list_getitem.lookup (wpAny_getItem_list (s := ⟨h, gs, dr, t, os⟩) hl (Int.natCast_nonneg i) (by omega) (by simpa using hx) q) hs

theorem l_mul_raw {s : Shared} {l : Addr} {items : Array Value} {k : Nat} {x : Int} {u : Tok} {Q : Value → Shared → Prop}
    (hl : s.heap.get? l = some { cls := .type "list", dict := none, data := .seq items k, slots := #[] })
    (hlo : -(2 ^ 63 : Int) ≤ x) (hhi : x < 2 ^ 63) (hsz : items.size * x.toNat ≤ 2 ^ 24)
    (h : Q (.ref s.heap.objs.size) { s with heap := s.heap.push { cls := .type "list", data := .seq (List.foldl (fun x1 x2 => x1 ++ x2) #[] (List.replicate (if items.isEmpty = true then 0 else x.toNat) items)) } }) :
    wpAny (model PR w) A (binaryOp .Mult (.ref l) (.int x u)) Q E s :=
  wpAny_binaryOp_repeat_ref (T := "list") (U := "int") (by decide) ⟨_, hl, rfl⟩ (fun s' => typeIs_int s' x u) noFill_list_mul PySem.F.fills_int_mul PySem.F.slot_int_rmul repeat_list PySem.F.slot_int_index.lookup
    (call_meets PySem.F.slot_int_rmul (typeIs_int s x u) PySem.F.entry_int_rmul (PySem.F.args_int_rmul_2 _ _) (int___rmul___int_list x u l items k)
      ⟨hl, rfl, ⟨_, hl, rfl⟩, call_meets PySem.F.slot_list_mul ⟨_, hl, rfl⟩ PySem.F.entry_list_mul (PySem.F.args_list_mul_2 _ _)
        (AutoListH.list___mul___list_int_3 l items k x u (by simp [Builtin.List.listFitsIndex]; omega) (by omega) (by simp [Builtin.List.listTooLong, sizeLine]; omega))
        ⟨hl, h⟩⟩)
theorem l_mul {a : Addr} {v : Value} {c : Nat} {tk : Tok} {Q : Value → Shared → Prop} (F : Fn w wr g₀ h₀ env μ m g h) (hl : Lst h a [v]) (hc : c ≤ 1000)
    (q : ∀ b h' o, Fn w wr g₀ h₀ env ((b, o) :: μ) m g h' → o = { cls := .type "list", data := .seq (List.replicate c v).toArray 0 } → Q (.ref b) ⟨h', gs, dr, t, os⟩) : wpAny (model PR w) A (binaryOp .Mult (.ref a) (.int c tk)) Q E ⟨h, gs, dr, t, os⟩ := by
  obtain ⟨k, hl⟩ := hl
  have e : ∀ c : Nat, List.foldl (fun x1 x2 => x1 ++ x2) (#[] : Array Value) (List.replicate c [v].toArray) = (List.replicate c v).toArray := by
    have : ∀ (c : Nat) (acc : Array Value), List.foldl (fun x1 x2 => x1 ++ x2) acc (List.replicate c [v].toArray) = acc ++ (List.replicate c v).toArray := by
      intro c
      induction c with
      | zero => intro acc; simp
      | succ c ih => intro acc; rw [List.replicate_succ, List.foldl_cons, ih, List.replicate_succ]; apply Array.ext'; simp
    intro c; rw [this]; simp
  refine l_mul_raw (s := ⟨h, gs, dr, t, os⟩) (items := [v].toArray) (k := k) (x := (c : Int)) hl (by omega) (by omega) (by simp; omega) ?_
  refine q h.objs.size _ _ (F.push (get_none_of (Nat.le_refl _)) (fun b o e => Heap.get?_push_of_some _ e) (Heap.get?_push_size _ rfl)) ?_
  rw [if_neg (by simp), Int.toNat_natCast, e]
theorem l_setN {a : Addr} {xs : List Value} {i : Nat} {k : Int} {u : Tok} {v : Value} {o : Obj} {nn : Nat} (l1 : List (Addr × Obj)) {l2 : List (Addr × Obj)} {Q : Unit → Shared → Prop} (F : Fn w wr g₀ h₀ env (l1 ++ (a, o) :: l2) m g h) (hc : o.cls = .type "list") (hd : o.data = .seq xs.toArray nn) (hk : k = (i : Int)) (hi : i < xs.length) (hfit : xs.length ≤ 1000000)
    (q : ∀ h' t' o' n', Fn w wr g₀ h₀ env (l1 ++ (a, o') :: l2) m g h' → o'.cls = .type "list" → o'.data = .seq (xs.set i v).toArray n' → Q () ⟨h', gs, dr, t', os⟩) : wpAny (model PR w) A (setItem (.ref a) (.int k u) v) Q E ⟨h, gs, dr, t, os⟩ := by
  subst hk
  have hl : h.IsList a xs.toArray := ⟨o, (F.led _ (List.mem_append.mpr (.inr (.head _)))).1, hc, nn, hd⟩
  refine wpAny_setItem_list (s := ⟨h, gs, dr, t, os⟩) hl (Int.natCast_nonneg i) (by omega) (by simpa using hi) fun h' hl' S => ?_
  obtain ⟨o', e', c', n', d'⟩ := hl'
  exact q h' _ o' n' (F.mutN l1 S.extBut e') c' (by simpa using d')
end
end
section
set_option maxRecDepth 100000
set_option maxHeartbeats 4000000
open PySem PySem.W PySem.Calls PyProof.Rows
open PySem.SeqAt (EqAt RcAt)
theorem poorAt_succ {cols : List (List Bool)} {i p : Nat} {bs : List Bool} (h : cols[i]? = some bs) : poorAt (cols.take (i+1)) p = (poorAt (cols.take i) p || bs[p]?.getD false) := by
  unfold poorAt
  rw [List.take_add_one, h]; simp

section
variable {w : World} {A : Around} {E : Value → Shared → Prop} {env : Env} {g h g₀ h₀ : Heap} {gs : Array GenState} {dr : Drawn} {t : Nat} {os : OsState} {m : Str → Option Value} {n : Nat} {wr : Addr → Prop} {μ : List (Addr × Obj)}

theorem c_missing_rows {a : Addr} {vs : List Value} {cols : List (List Bool)} {count : Nat} {tk : Tok} {Q : Value → Shared → Prop} (R : Room A (n+2)) (sub : Sub g h) (W : Wd w g) (hl : Lst g a vs) (hc : Cols w g vs cols) (hn : cols.length ≤ 100) (hcount : count ≤ 100) (hlen : ∀ bs ∈ cols, bs.length = count)
    (q : ∀ b g' h' t' (fs : List Value), Grow NoW g h g' h' → g'.IsList b fs.toArray → fs.length = count → (∀ p, p < count → fs[p]? = some (.bool (poorAt cols p))) → Q (.ref b) ⟨h', gs, dr, t', os⟩) :
    wpAny (model PR w) A (call (.ref 146) [.ref a, .int count tk]) Q E ⟨h, gs, dr, t, os⟩ := by
  refine call_v (wr := NoW) sub W R.room (f146 w).2 rfl (by kernel_rfl) rfl rfl rfl (.of_eq rfl) rfl (noWr _) fun L h₁ t₁ E' _ F => ?_
  have R' := R.deeper (callEnvC (f146 w).1 L 146)
  repeat walk_at "s"
  refine l_display ?_
  repeat walk_at "s"
  refine ⟨by simp, _, _, _, rfl, F.sub, fun a₂ g₂ h₂ ha₂ G l₂ => ?_⟩
  have F := F.step0 G
  repeat walk_at "s"
  refine l_mul F (l₂.up F.sub) (by omega) fun b h₃ o F ho => ?_
  subst ho
  repeat walk_at "s"
  rename_i F
  refine for_stmt ?_
  repeat walk_at "s"
  refine for_k rfl F (src_list R'.hd F.sub (hl.up (by walk_at "up"))) (fun i μ m g => ∃ o fs n, μ = [(b, o)] ∧ o.cls = .type "list" ∧ o.data = .seq (fs : List Value).toArray n ∧ fs.length = count ∧ (∀ p, p < count → fs[p]? = some (.bool (poorAt (cols.take i) p))) ∧ m "found" = some (.ref b) ∧ m "count" = some (.int count tk))
    ⟨_, List.replicate count (.bool false), 0, rfl, rfl, rfl, by simp, fun p hp => by simp [poorAt, hp], rfl, rfl⟩
    (fun i p μ' m' g' h' t' v hi hv inv F le => ?_) (fun μ' m' g' h' t' F le inv => ?_)
  · obtain ⟨o, fs, nn, rfl, oc, od, lfs, hfs, hm1, hm2⟩ := inv
    have hic : i < cols.length := by rw [← hc.1]; exact hi
    obtain ⟨bs, hbs⟩ : ∃ bs, cols[i]? = some bs := ⟨cols[i], by simp [hic]⟩
    obtain ⟨kind, ai, attrs, xs, hv, hxs, lxs, hcell⟩ := hc.2 i v bs hv hbs
    have lbs := hlen bs (List.mem_of_getElem? hbs)
    refine wpAny_execs_cons (for_stmt ?_)
    repeat walk_at "s"
    refine vec_items F.Wh (hv.up (by walk_at "up")) fun _ => ?_
    repeat walk_at "s"
    refine l_len (hxs.up (by walk_at "up")) (by omega) fun _ _ => ?_
    repeat walk_at "s"
    refine r_range F.sub fun r g₅ h₅ t₅ x y z hr G hrr => ?_
    have le₅ := G.le
    have F := F.step0 G
    refine for_k rfl F (src_range R'.hd (by omega) hrr) (fun j μ m g => ∃ o fs n, μ = [p, (b, o)] ∧ o.cls = .type "list" ∧ o.data = .seq (fs : List Value).toArray n ∧ fs.length = count ∧ (∀ p, p < count → fs[p]? = some (.bool (poorAt (cols.take i) p || (decide (p < j) && bs[p]?.getD false)))) ∧ m "found" = some (.ref b) ∧ m "count" = some (.int count tk) ∧ m "column" = some v)
      ⟨_, fs, _, rfl, oc, od, lfs, fun p hp => by simp [hfs p hp], by walk_at "m", by walk_at "m", by walk_at "m"⟩
      (fun j p₂ μ' m' g' h' t' u hj hu inv F le => ?_) (fun μ' m' g' h' t' F le inv => ?_)
    · obtain ⟨o, fs, nn, rfl, oc, od, lfs, hfs, hm1, hm2, hm3⟩ := inv
      obtain ⟨tu, rfl⟩ := hu
      have hjc : j < count := by rw [← lbs, ← lxs]; exact hj
      repeat walk_at "s"
      refine vec_kind F.Wh (hv.up (by walk_at "up")) fun _ _ => ?_
      repeat walk_at "s"
      refine vec_items F.Wh (hv.up (by walk_at "up")) fun _ => ?_
      repeat walk_at "s"
      obtain ⟨xj, hxj⟩ : ∃ x, xs[j]? = some x := ⟨xs[j], by simp [hj]⟩
      obtain ⟨bj, hbj⟩ : ∃ x, bs[j]? = some x := ⟨bs[j]'(by omega), by simp [show j < bs.length by omega]⟩
      refine l_item (hxs.up (by walk_at "up")) rfl hxj (by omega) ?_ (by with_unfolding_all rfl)
      repeat walk_at "s"
      refine c_missing_item R' F.sub F.W ((hcell j xj bj hxj hbj).up (by walk_at "up")) fun g₆ h₆ t₆ G => ?_
      have F := F.step0 G
      have le₆ := G.le
      refine wpAny_truthy_bool ?_
      have key : ∀ p, p < count → (poorAt (cols.take i) p || (decide (p < j + 1) && bs[p]?.getD false)) = (if p = j then (poorAt (cols.take i) p || bj) else (poorAt (cols.take i) p || (decide (p < j) && bs[p]?.getD false))) := fun p _ => by
        by_cases e : p = j
        · subst e; simp [hbj]
        · have : decide (p < j + 1) = decide (p < j) := by simp; omega
          rw [if_neg e, this]
      have cur := hfs j hjc
      simp only [Nat.lt_irrefl, decide_false, Bool.false_and, Bool.or_false] at cur
      refine ite_s (fun hb => ?_) fun hb => ?_
      · subst hb
        refine wpAny_execs_cons (wpAny_Assign_Subscript ?_)
        repeat walk_at "s"
        refine o_mod (by omega) fun _ _ => ?_
        have em : (j : Int).fmod (count : Int) = (j : Int) := by
          rw [Int.fmod_eq_emod_of_nonneg _ (by omega), Int.emod_eq_of_lt (by omega) (by omega)]
        rw [em]
        refine l_setN [p₂, p] F oc od rfl (by omega) (by omega) fun h₇ t₇ o₇ n₇ F oc od => ?_
        refine wpAny_execs_nil (wpAny_execs_nil ?_)
        refine ⟨_, _, _, _, _, rfl, F, le₆, o₇, _, n₇, rfl, oc, od, by simp [lfs], fun p hp => ?_, by walk_at "m", by walk_at "m", by walk_at "m"⟩
        rw [key p hp, List.getElem?_set]
        by_cases e : p = j
        · subst e; simp [hp, lfs]
        · have : ¬ (j = p) := fun q => e q.symm
          rw [if_neg this, if_neg e]; exact hfs p hp
      · subst hb
        refine wpAny_execs_nil (wpAny_execs_nil ?_)
        refine ⟨_, _, _, _, _, rfl, F, le₆, o, fs, nn, rfl, oc, od, lfs, fun p hp => ?_, by walk_at "m", by walk_at "m", by walk_at "m"⟩
        rw [key p hp]
        by_cases e : p = j
        · subst e; rw [if_pos rfl, cur]; simp
        · rw [if_neg e]; exact hfs p hp
    · obtain ⟨o, fs, nn, rfl, oc, od, lfs, hfs, hm1, hm2, hm3⟩ := inv
      refine wpAny_execs_nil ?_
      refine ⟨_, _, _, _, _, rfl, F, by walk_at "up", o, fs, nn, rfl, oc, od, lfs, fun p hp => ?_, by walk_at "m", by walk_at "m"⟩
      rw [hfs p hp, poorAt_succ hbs]
      have : decide (p < xs.length) = true := by simp; omega
      rw [this, Bool.true_and]
  · obtain ⟨o, fs, nn, rfl, oc, od, lfs, hfs, hm1, hm2⟩ := inv
    obtain ⟨F, hd, le₆⟩ := F.freeze
    repeat walk_at "s"
    refine q b _ _ _ fs F.gr ⟨o, hd, oc, nn, od⟩ lfs ?_
    rw [hc.1, List.take_length] at hfs; exact hfs
end
end
section
set_option maxRecDepth 100000
set_option maxHeartbeats 4000000
open PySem PySem.W PySem.Calls PyProof.Rows
open PySem Builtin Builtin.ObjectAttr
open PySem.SeqAt (EqAt RcAt)
abbrev excObj (tp tb : Value) (d : Option Addr) : Obj := { cls := .ref 75, dict := d, data := .fields #[tp, tb, .none, .none, .bool false, .none] }
theorem exc_refuse (self : Value) : refuseLoop self "__setattr__" [.ref 75, .ref 55, .type "Exception", .type "BaseException", .type "object"] = pure () := by
  rw [refuseLoop_ref, refuseLoop_ref]; kernel_rfl
theorem exc_cls (w : World) : ∃ cd, clsIn (KP w) 75 = some cd ∧ cd.mro = [.ref 75, .ref 55, .type "Exception", .type "BaseException", .type "object"] ∧ cd.hasDict = true := ⟨_, rfl, rfl, rfl⟩

section
variable {w : World} {A : Around} {E : Value → Shared → Prop} {env : Env} {g h g₀ h₀ : Heap} {gs : Array GenState} {dr : Drawn} {t : Nat} {os : OsState} {m : Str → Option Value} {n : Nat} {wr : Addr → Prop} {μ : List (Addr × Obj)}

theorem osa_exc {s : Shared} {R : Result → Shared → Prop} {x : Addr} {ox : Obj} {od : Option Obj} {name : Str} {tk : Tok} {v : Value} {r : Option Value} (X : (KP w).In s.heap) (I : InstAt s.heap x ox 75 od) (ht : takerIn (KP w) 75 name = some r)
    (h : ∀ b, wpAny (model PR w) A.in1 (match r with | some a => setByDescriptor a (.ref x) v | none => storeInOwnDict (.ref x) (.ref 75) (.str name tk) name v b)
      (fun fin s' => match fin with | .done f => R (.ok f) s' | .again c' => c'.quiet = true ∧ codeAny (model PR w) A c' R s') (fun e s' => R (.error e) s') s) :
    codeAny (model PR w) A (.call (.builtin "object.__setattr__") ⟨[.ref x, .str name tk, v], []⟩) R s := by
  have SF := PySem.F.store_object
  obtain ⟨cd, hc, ho, _⟩ := exc_cls w
  have sub : Looks (model PR w) s.heap (isInstance (.ref x) (.type "object")) true := I.type.andThen (looks_mroIn X (by unfold mroIn; rw [hc, Option.bind_some, ho]; rfl))
  refine codeAny_call_builtin SF.slot.plain SF.entry (@check_slot (model PR w) _ _ s "object.__setattr__" "object" "__setattr__" (.ref x) [.str name tk, v] [] _ SF.kind SF.split sub (SF.args (.ref x) (.str name tk) v) ?_)
  obtain ⟨attr, ha, hr⟩ := Option.bind_eq_some_iff.mp ht
  have hm : Looks (model PR w) s.heap (mroOf (.ref 75)) cd.mro := (looks_clsIn X hc).andThen .now
  have L3 : Looks (model PR w) s.heap (storeTaker? attr) r := by
    cases attr with
    | none => cases hr; exact .now
    | some a =>
      obtain ⟨b, hb, rfl⟩ := Option.map_eq_some_iff.mp hr
      refine (looks_takesIn X hb).andThen ?_
      cases b <;> exact .now
  rw [osa_eq, refuse_eq]
  refine wpAny_bind (wpAny_bind (I.type.here (wpAny_bind (hm.here ?_))))
  rw [ho, exc_refuse]
  refine wpAny_pure (wpAny_bind (I.type.here (wpAny_bind ((looks_findIn X ha).here (wpAny_bind (L3.here ?_))))))
  exact h _

theorem set_exc {x : Addr} {tp tb : Value} {v : Value} {Q : Unit → Shared → Prop} (K : (KP w).In h) (hx : h.get? x = some (excObj tp tb none))
    (q : ∀ h' t' dx es n, h.get? dx = none → Heap.ExtBut x h h' → h'.get? x = some (excObj tp tb (some dx)) → h'.get? dx = some (dictOf es n) → StrK es → getL "message" es = some (some v) → Q () ⟨h', gs, dr, t', os⟩) :
    wpAny (model PR w) A (setAttr (.ref x) "message" v) Q E ⟨h, gs, dr, t, os⟩ := by
  have I : InstAt h x (excObj tp tb none) 75 none := ⟨hx, rfl, rfl, trivial⟩
  obtain ⟨cd, hc, ho, hd⟩ := exc_cls w
  refine set_plain (s := ⟨h, gs, dr, t, os⟩) K I (by kernel_rfl) (osa_exc (s := ⟨h, gs, dr, t + 1, os⟩) (r := none) K I (by kernel_rfl) fun b => ?_)
  refine wpAny_bind (wpAny_pure (wpAny_bind (wpAny_bind (wpAny_loadPart hx (wpAny_bind ((looks_clsIn K hc).here ?_))))))
  rw [hd]
  have hx1 : (h.push emptyDict).get? x = some (excObj tp tb none) := Heap.get?_push_of_some _ hx
  have hx2 := Heap.get?_update_self (fun o => { o with dict := some h.objs.size }) hx1 rfl
  have hne : x ≠ h.objs.size := Nat.ne_of_lt (Heap.lt_size hx)
  have hd2 : ((h.push emptyDict).update x fun o => { o with dict := some h.objs.size }).get? h.objs.size = some emptyDict := (Heap.get?_update_other _ _ hne).trans (Heap.get?_push_size _ rfl)
  have ex2 : Heap.ExtBut x h ((h.push emptyDict).update x fun o => { o with dict := some h.objs.size }) := fun b o hb e => (Heap.get?_update_other _ _ (Ne.symm hb)).trans (Heap.get?_push_of_some _ e)
  rw [if_neg (by decide)]
  show wpAny _ _ (alloc emptyDict >>= fun d => update x (fun o => { o with dict := some d }) >>= fun _ => dictMade (.ref 75) x d) _ _ _
  refine wpAny_bind (wpAny_alloc ?_)
  refine wpAny_bind (wpAny_update hx1 ?_)
  refine wpAny_pure (a := some h.objs.size) (wpAny_bind (wpAny_pure (wpAny_bind ?_)))
  dsimp only
  generalize ((h.push emptyDict).update x fun o => { o with dict := some h.objs.size }) = H2 at hx2 hd2 ex2 ⊢
  unfold nsSet
  refine wpAny_bind (wpAny_bind (wpAny_askSetting (wpAny_pure (wpAny_bind (wpAny_mkText (wpAny_bind (wpAny_loadPart hd2 ?_)))))))
  dsimp only
  rw [if_neg (by decide)]
  have e1 := putName_dict "message" (PyData.keyHash w.params "message") (.str "message" (t + 1)) v [] 0
  have D' := Heap.get?_update_self (Obj.putName "message" (PyData.keyHash w.params "message") (.str "message" (t + 1)) v) (o := dictOf [] 0) hd2 (by rw [e1]; rfl)
  rw [e1] at D'
  refine wpAny_updatePart hd2 ?_
  refine wpAny_bind (wpAny_lookBehind D' (pastItsLine_dict (by simp [putL, sizeLine_eq])) ?_)
  have k0 : StrK [] := fun e he => by cases he
  refine wpAny_pure (q _ _ h.objs.size _ _ (get_none_of (Nat.le_refl _)) (fun b o hb e => ?_) ?_ D' (strK_put k0 _ _ _ _) ?_)
  · exact (Heap.get?_update_other _ _ (Ne.symm (Nat.ne_of_lt (Heap.lt_size e)))).trans (ex2 b o hb e)
  · exact (Heap.get?_update_other _ _ (Ne.symm hne)).trans hx2
  · rw [getL_put k0, if_pos rfl]

noncomputable def o75 (w : World) : {o : ClassData × Array (Option Value) // (KP w).lookup 75 = some ⟨.type "type", none, .cls o.1, o.2⟩} := ⟨(_, _), rfl⟩
noncomputable def o55 (w : World) : {o : ClassData × Array (Option Value) // (KP w).lookup 55 = some ⟨.type "type", none, .cls o.1, o.2⟩} := ⟨(_, _), rfl⟩
theorem exc_made {MM : Model} {h : Heap} (W : Wd w h) : Looks MM h (Bind.madeBy (.ref 75)) (some "Exception.__new__") := by
  have X := W.K
  obtain ⟨cd, hc, ho, _⟩ := exc_cls w
  have hm : Looks MM h (mroOf (.ref 75)) cd.mro := (looks_clsIn X hc).andThen .now
  intro A Q E s k q
  unfold Bind.madeBy
  refine wpAny_bind (hm A _ E s k ?_)
  rw [ho, List.forIn_cons]
  refine wpAny_bind (wpAny_bind (wpAny_bind (wpAny_bind (wpAny_loadPart (k _ _ (X _ _ (o75 w).2)) (wpAny_pure ?_)))))
  exact wpAny_pure (wpAny_pure (wpAny_pure q))

noncomputable def o54 (w : World) : {o : Obj × Array DictEntry × Nat // (KP w).lookup 54 = some o.1 ∧ o.1.data = .dict o.2.1 o.2.2} := ⟨(_, _, _), rfl, rfl⟩
theorem o54_str (w : World) : ((o54 w).1.2.1.toList.all fun e => match e.key with | .str _ _ => true | _ => false) = true := by kernel_rfl
theorem o54_ini (w : World) : nsFind (o54 w).1.2.1 "__init__" = none := by kernel_rfl
theorem own_tail (W : Wd w h) : OwnTail h [.type "Exception", .type "BaseException", .type "object"] [.ref 55, .type "Exception", .type "BaseException", .type "object"] := by
  refine .own (mA := nsFind (o54 w).1.2.1) (W.K _ _ (o55 w).2) ⟨(o54 w).1.1, (o54 w).1.2.1, (o54 w).1.2.2, W.K _ _ (o54 w).2.1, (o54 w).2.2, ?_, fun _ => rfl⟩ (o54_ini w) .base
  intro e he
  have := List.all_eq_true.mp (o54_str w) e (by simpa using he)
  split at this
  · rename_i q; exact ⟨_, _, q⟩
  · cases this
theorem make_exc {msg : Value} {R : Result → Shared → Prop} (W : Wd w h)
    (hq : codeAny (model PR w) (A.under (.builtin "type.__call__" ⟨[.ref 75, msg], []⟩)) (.call (.ref 72) ⟨[.ref (h.objs.size + 1), msg], []⟩) (InitBack (h.objs.size + 1) R) ⟨(h.push { cls := .type "tuple", data := .seq [msg].toArray }).push (excObj (.ref h.objs.size) .none none), gs, dr, t, os⟩) :
    codeAny (model PR w) A (.call (.ref 75) ⟨[msg], []⟩) R ⟨h, gs, dr, t, os⟩ := by
  have X := W.K
  have hC := X _ _ (o75 w).2
  have made := exc_made (MM := (model PR w)) W
  have call : Looks (model PR w) h (specialOf (.ref 75) "__call__") (some (.builtin "type.__call__")) := looks_specialIn X (by kernel_rfl)
  have typ : Looks (model PR w) h (isInstance (.ref 75) (.type "type")) true := looks_instIn X (by kernel_rfl)
  have self : Looks (model PR w) h (isSubtype (.ref 75) (.ref 75)) true := looks_mroIn X (by kernel_rfl)
  have hi : Looks (model PR w) h (typeLookup (.ref 75) "__init__") (some (.ref 72)) := looks_findIn X (by kernel_rfl)
  have hb : ∀ self, Looks (model PR w) h (bindSpecial (.ref 72) self) (.ref 72, [self]) := fun self => bind_fn X self (by kernel_rfl)
  obtain ⟨cd, hc, ho, _⟩ := exc_cls w
  refine codeAny_of_tree ?_
  show wpAny _ _ (callAny (.ref 75) _) _ _ _
  refine nd_load hC ?_
  show wpAny _ _ (callAny.viaDunder (.ref 75) _) _ _ _
  unfold callAny.viaDunder
  refine wpAny_bind (call.at ?_)
  dsimp only
  rw [tc_bind]
  refine wpAny_bind (wpAny_pure (wpAny_bind (wpAny_pure ?_)))
  refine wpAny_pure (a := Fin.again (.call (.builtin "type.__call__") ⟨[.ref 75, msg], []⟩)) (And.intro rfl ?_)
  refine codeAny_call_builtin_at (Code.quiet_builtin _ (by decide +kernel)) entry_typeCall (check_slot tc_kind tc_split typ (tc_args _ _ _) ?_)
  unfold Builtin.«type.__call__»
  have hm : Looks (model PR w) h (mroOf (.ref 75)) cd.mro := (looks_clsIn X hc).andThen .now
  have e4 : cd.mro.isEmpty = false := by rw [ho]; rfl
  repeat (first | simp only [e4, Bool.false_eq_true, if_false] | with_reducible refine wpAny_call ?_ | lk)
  have hC' : h.get? 75 = some (excClassObj "Refusal" "Refusal" 75 74 [.ref 55] [.ref 55, .type "Exception", .type "BaseException", .type "object"] true [] [] false none none (some (.ref 59)) none (some (.str "Refusal" 246)) (some (.str "Refusal" 254)) (some (.bool true)) "Exception.__new__") := hC
  refine codeAny_call_builtin_code (Code.quiet_builtin _ PySem.F.excBase_Exception.quiet) (wpAny_check_new_subU PySem.F.excBase_Exception (by decide) (own_tail W) hC' ?_)
  refine codeAny_exc_new_subU PySem.F.excBase_Exception (by decide) PySem.F.excBase_Exception (own_tail W) hC' ?_ (by rw [sizeLine_eq]; simp)
  have k : Sub h ((h.push { cls := .type "tuple", data := .seq [msg].toArray }).push (excObj (.ref h.objs.size) .none none)) := fun b o e => Heap.get?_push_of_some _ (Heap.get?_push_of_some _ e)
  have hx : ((h.push { cls := .type "tuple", data := .seq [msg].toArray }).push (excObj (.ref h.objs.size) .none none)).get? (h.objs.size + 1) = some (excObj (.ref h.objs.size) .none none) := by heap_get
  have t1 : Looks (model PR w) ((h.push { cls := .type "tuple", data := .seq [msg].toArray }).push (excObj (.ref h.objs.size) .none none)) (typeOf (.ref (h.objs.size + 1))) (.ref 75) := (Looks.ld hx).andThen .now
  have s1 := self.keeps k
  have i1 := hi.keeps k
  have b1 := (hb (.ref (h.objs.size + 1))).keeps k
  dsimp only
  unfold isInstance callSpecial? specialOf
  repeat (first | with_reducible refine wpAny_call ?_ | lk)
  refine codeAny_mono hq fun r s' z => ?_
  rcases r with e | (v | _ | _ | _) <;> first | exact z | exact z.elim | skip
  obtain ⟨rfl, z⟩ := z
  exact wpAny_pure (wpAny_pure z)

/-- an exception of Refusal's, with its message, new and not yet raised -/
structure Exc (h : Heap) (e dx : Addr) (tp tb : Value) (msg : Value) : Prop where
  ob : h.get? e = some (excObj tp tb (some dx))
  di : ∃ es n, h.get? dx = some (dictOf es n) ∧ StrK es ∧ getL "message" es = some (some msg)

theorem c_refusal {msg : Value} {Q : Value → Shared → Prop} (R : Room A (n+2)) (sub : Sub g h) (W : Wd w g)
    (q : ∀ e dx tp h' t', h.get? e = none → h.get? dx = none → Sub h h' → Exc h' e dx tp .none msg → e ≠ dx → Q (.ref e) ⟨h', gs, dr, t', os⟩) : wpAny (model PR w) A (call (.ref 75) [msg]) Q E ⟨h, gs, dr, t, os⟩ := by
  have Wh := W.mono sub
  refine wpAny_call (make_exc Wh ?_)
  have k : Sub h ((h.push { cls := .type "tuple", data := .seq [msg].toArray }).push (excObj (.ref h.objs.size) .none none)) := fun b o e => Heap.get?_push_of_some _ (Heap.get?_push_of_some _ e)
  have hx : ((h.push { cls := .type "tuple", data := .seq [msg].toArray }).push (excObj (.ref h.objs.size) .none none)).get? (h.objs.size + 1) = some (excObj (.ref h.objs.size) .none none) := by heap_get
  have fx : h.get? (h.objs.size+1) = none := get_none_of (Nat.le_succ _)
  generalize ((h.push { cls := .type "tuple", data := .seq [msg].toArray }).push (excObj (.ref h.objs.size) .none none)) = h1 at k hx ⊢
  generalize (Value.ref h.objs.size) = tp at hx
  have gx : g.get? (h.objs.size+1) = none := by
    cases q : g.get? (h.objs.size+1) with
    | none => rfl
    | some o => rw [sub _ o q] at fx; cases fx
  refine call_fn (wr := OnlyW (h.objs.size+1)) (sub.trans k) W (R.make _ _ _).room (f72 w).2 rfl (by kernel_rfl) rfl rfl rfl (.of_eq rfl) rfl (fun b e => e ▸ ⟨⟨_, hx⟩, gx⟩) fun L h₁ t₁ K F => ?_
  repeat walk_at "s"
  refine set_exc F.Wh.K (K _ _ hx) fun h₂ t₂ dx es nn hd ex he hdi hk hm => ?_
  have F := F.mutW rfl gx ex ⟨_, he⟩
  refine wpAny_execs_nil ?_
  have fd : h.get? dx = none := by
    cases q : h.get? dx with
    | none => rfl
    | some o => rw [K _ _ (k _ _ q)] at hd; cases hd
  refine ⟨rfl, q _ dx tp _ _ fx fd (fun b o e => F.gr.keep b o (fun q => by rw [q, fx] at e; cases e) (k b o e)) ⟨he, es, nn, hdi, hk, hm⟩ fun q => ?_⟩
  rw [← q, K _ _ hx] at hd; cases hd

theorem exc_lk75 (W : Wd w h) : h.get? 75 = some (excClassObj "Refusal" "Refusal" 75 74 [.ref 55] [.ref 55, .type "Exception", .type "BaseException", .type "object"] true [] [] false none none (some (.ref 59)) none (some (.str "Refusal" 246)) (some (.str "Refusal" 254)) (some (.bool true)) "Exception.__new__") := W.K _ _ (o75 w).2

theorem raise_exc {s : Shared} {e : Expr} {pos : Pos} {Q : Flow → Shared → Prop} (hh : A.handled = none)
    (hq : wpAny (model PR w) A (eval e env) (fun v s₁ => ∃ ex dx tp msg, v = .ref ex ∧ Wd w s₁.heap ∧ Exc s₁.heap ex dx tp .none msg ∧ E (.ref ex) s₁) E s) :
    wpAny (model PR w) A (exec (.Raise (some e) none pos) env) Q E s := by
  rw [arm_exec_Raise]
  simp only [evalOpt, Option.map]
  refine wpAny_bind (wpAny_standAt ?_)
  unfold raiseStmt
  refine wpAny_bind (wpAny_bind (wpAny_mono hq (fun v s₁ h₁ => wpAny_bind (wpAny_standAt (wpAny_pure ?_))) fun _ _ x => x))
  obtain ⟨ex, dx, tp, msg, rfl, W, X, hE⟩ := h₁
  obtain ⟨hp, g, d, tk, os⟩ := s₁
  have he := X.ob
  have hC := exc_lk75 W
  have hcB : (Value.ref 75 :: [.ref 55, .type "Exception", .type "BaseException", .type "object"]).contains (.type "BaseException") = true := by decide
  repeat (first | with_reducible refine wpAny_loadPart_at he ?_ | with_reducible refine wpAny_loadPart_at hC ?_ | (with_reducible refine wpAny_isSubtype_exc hC ?_; rw [hcB]) | wp_step)
  exact wpAny_raiseNew_none hh hE
end
end
section
set_option maxRecDepth 100000
set_option maxHeartbeats 4000000
open PySem PySem.W PySem.Calls PyProof.Rows
open PySem Builtin Builtin.ObjectAttr
open PySem.SeqAt (EqAt RcAt)
/-- the frames of the stack are what they should be -/
def FrOk (h : Heap) (l : List Env) : Prop := ∀ env ∈ l, env.scope.kind ≠ .module ∧ ∃ L o, env.frame = some L ∧ h.get? L = some o ∧ ∀ vs, o.data ≠ .fields vs
def frs (l : List Env) : List Addr := l.filterMap (·.frame)
theorem FrOk.fun {h : Heap} : ∀ {l : List Env}, FrOk h l → h.FunFrames (only h fun b => b ∉ frs l) l := by
  have key : ∀ {l l0 : List Env}, (∀ b ∈ frs l, b ∈ frs l0) → FrOk h l → h.FunFrames (only h fun b => b ∉ frs l0) l := by
    intro l
    induction l with
    | nil => intro l0 _ _; trivial
    | cons env rest ih =>
      intro l0 hs k
      obtain ⟨k1, L, o, k2, k3, k4⟩ := k env (.head _)
      refine ⟨k1, ⟨L, o, k2, ?_, k3, k4⟩, ih (fun b hb => hs b ?_) fun e he => k e (.tail _ he)⟩
      · cases q : (only h fun b => b ∉ frs l0).get? L with
        | none => rfl
        | some o' => exact absurd (hs L (by simp [frs, k2])) (only_get.mp q).1
      · obtain ⟨x, hx, e⟩ := List.mem_filterMap.mp hb
        exact List.mem_filterMap.mpr ⟨x, .tail _ hx, e⟩
  exact fun {l} k => key (fun _ hb => hb) k
theorem FrOk.mem {h : Heap} {l : List Env} (k : FrOk h l) {b : Addr} (hb : b ∈ frs l) : ∃ o, h.get? b = some o ∧ ∀ vs, o.data ≠ .fields vs := by
  obtain ⟨env, he, e⟩ := List.mem_filterMap.mp hb
  obtain ⟨_, L, o, k2, k3, k4⟩ := k env he
  rw [k2] at e; cases e
  exact ⟨o, k3, k4⟩

def TbOk (h : Heap) (T : Addr) : Prop := ∃ oT ts, h.get? T = some oT ∧ oT.data = .fields ts ∧ ts[3]? = some .none
/-- from h to h': only the slots of the frames, and X -/
structure Thr (l : List Env) (X : Addr → Prop) (h h' : Heap) : Prop where
  keep : ∀ b o, b ∉ frs l → ¬ X b → h.get? b = some o → h'.get? b = some o
  slots : ∀ b o, b ∈ frs l → h.get? b = some o → ∃ sl, h'.get? b = some { o with slots := sl }
theorem Thr.dom {l : List Env} {X : Addr → Prop} {h h' : Heap} (t : Thr l X h h') {b : Addr} (hx : ¬ X b) (e : h'.get? b = none) : h.get? b = none := by
  cases q : h.get? b with
  | none => rfl
  | some o =>
    by_cases hb : b ∈ frs l
    · obtain ⟨sl, e'⟩ := t.slots b o hb q; rw [e'] at e; cases e
    · rw [t.keep b o hb hx q] at e; cases e

section
variable {w : World} {M : Model} {A : Around} {E : Value → Shared → Prop} {env : Env} {g h g₀ h₀ : Heap} {gs : Array GenState} {dr : Drawn} {t : Nat} {os : OsState} {m : Str → Option Value} {n : Nat} {wr : Addr → Prop} {μ : List (Addr × Obj)}

theorem set_flight {e T : Addr} {tp msg : Value} {dx : Addr} {oT : Obj} {ts : Array Value} {f : Option Addr} {Q : Unit → Shared → Prop} (X : Exc h e dx tp (.ref T) msg) (hT : h.get? T = some oT) (hd : oT.data = .fields ts) (h3 : 3 < ts.size) (hTe : T ≠ e) (hTd : T ≠ dx)
    (q : ∀ h', Heap.ExtBut T h h' → Exc h' e dx tp (.ref T) msg → (∃ oT ts, h'.get? T = some oT ∧ oT.data = .fields ts ∧ ts[3]? = some (f.elim .none fun f => rawInt f)) → Q () ⟨h', gs, dr, t, os⟩) : wpAny M A (setFlight (.ref e) f) Q E ⟨h, gs, dr, t, os⟩ := by
  unfold setFlight
  refine wpAny_bind (wpAny_field X.ob rfl (x := .ref T) rfl ?_)
  rw [if_pos (show (Value.ref T != Value.none) = true from by simp)]
  have hd' := Obj.data_mapFields hd (·.setIfInBounds 3 (f.elim .none fun f => rawInt f))
  have hT' := Heap.get?_update_self (Obj.mapFields (·.setIfInBounds 3 (f.elim .none fun f => rawInt f))) hT (Obj.isFreed_of_fields hd')
  refine wpAny_setField hT hd h3 (q _ (fun b o hb e => (Heap.get?_update_other _ _ (Ne.symm hb)).trans e) ?_ ⟨_, _, hT', hd', by simp [h3]⟩)
  obtain ⟨es, n, x1, x2⟩ := X.di
  exact ⟨(Heap.get?_update_other _ _ hTe).trans X.ob, es, n, (Heap.get?_update_other _ _ hTd).trans x1, x2⟩

theorem note1 {outer : List Env} {L e dx : Addr} {tp msg : Value} {Q : Unit → Shared → Prop}
    (hfr : A.frames = some (env :: outer)) (hl : FrOk h (env :: outer)) (hf : env.frame = some L) (X : Exc h e dx tp .none msg) (hdx : dx ∉ frs (env :: outer)) (hde : e ≠ dx)
    (q : ∀ h' T, h.get? T = none → Thr (env :: outer) (· = e) h h' → Exc h' e dx tp (.ref T) msg → (∃ oT ts, h'.get? T = some oT ∧ oT.data = .fields ts ∧ ts[3]? = some (rawInt L)) → Q () ⟨h', gs, dr, t, os⟩) : wpAny M A (noteFrame (.ref e) env) Q E ⟨h, gs, dr, t, os⟩ := by
  have hene : e ∉ frs (env :: outer) := fun hm => by
    obtain ⟨o, ho, hnf⟩ := hl.mem hm
    rw [X.ob] at ho; cases ho; exact hnf _ rfl
  unfold noteFrame
  simp only [hf]
  refine wpAny_bind (wpAny_field X.ob rfl (x := .none) rfl ?_)
  rw [if_neg (by decide)]
  refine wpAny_bind (wpAny_frameOf_fun hfr hl.fun hf fun h₁ hs₁ => ?_)
  refine wpAny_bind (wpAny_entryPlaceOf fun pl hpl => ?_)
  unfold EntryCells.newEntry newFields
  refine wpAny_bind (wpAny_newObj_type ?_ (hpl.sizeOk5 _ _ _ _ _))
  have he₁ : h₁.get? e = some (excObj tp .none (some dx)) := (hs₁.2.1 e hene).trans X.ob
  have he₂ := Heap.get?_push_of_some (h := h₁) { cls := .type "traceback", dict := none, data := .fields ([Value.none, .ref L, .none, rawInt L, .none] ++ (if pl.isEmpty then List.replicate 6 Value.none else pl)).toArray } he₁
  refine wpAny_setField he₂ rfl (by simp) ?_
  have hTe : h₁.objs.size ≠ e := Nat.ne_of_gt (Heap.lt_size he₁)
  have hd₃ := Obj.data_mapFields (o := excObj tp .none (some dx)) rfl (·.setIfInBounds 1 (Value.ref h₁.objs.size))
  have he₃ := Heap.get?_update_self (Obj.mapFields (·.setIfInBounds 1 (Value.ref h₁.objs.size))) he₂ (Obj.isFreed_of_fields hd₃)
  have hT₃ := (Heap.get?_update_other (h₁.push { cls := .type "traceback", dict := none, data := .fields ([Value.none, .ref L, .none, rawInt L, .none] ++ (if pl.isEmpty then List.replicate 6 Value.none else pl)).toArray })
    (Obj.mapFields (·.setIfInBounds 1 (Value.ref h₁.objs.size))) (Ne.symm hTe)).trans (Heap.get?_push_size h₁ rfl)
  have keep : ∀ b o, b ≠ e → h₁.get? b = some o → ((h₁.push { cls := .type "traceback", dict := none, data := .fields ([Value.none, .ref L, .none, rawInt L, .none] ++ (if pl.isEmpty then List.replicate 6 Value.none else pl)).toArray }).update e (Obj.mapFields (·.setIfInBounds 1 (Value.ref h₁.objs.size)))).get? b = some o := fun b o hbe hb => by
    rw [Heap.get?_update_other _ _ (Ne.symm hbe)]
    exact Heap.get?_push_of_some _ hb
  refine q _ h₁.objs.size (get_none_of (Nat.le_of_eq hs₁.1.symm)) ⟨fun b o hb hx e' => keep b o hx ((hs₁.2.1 b hb).trans e'), fun b o hb e' => ?_⟩ ⟨he₃, ?_⟩ ⟨_, _, hT₃, rfl, by simp⟩
  · obtain ⟨sl, z⟩ := hs₁.2.2 b o e'
    exact ⟨sl, keep b _ (fun q => hene (q ▸ hb)) z⟩
  · obtain ⟨es, n, x1, x2⟩ := X.di
    exact ⟨es, n, keep dx _ (Ne.symm hde) ((hs₁.2.1 dx hdx).trans x1), x2⟩

theorem leave1 {outer : List Env} {L e dx : Addr} {tp msg : Value} {Q : Unit → Shared → Prop}
    (hfr : A.frames = some (env :: outer)) (hl : FrOk h (env :: outer)) (hf : env.frame = some L) (X : Exc h e dx tp .none msg) (hdx : dx ∉ frs (env :: outer)) (hde : e ≠ dx)
    (q : ∀ h' T, h.get? T = none → Thr (env :: outer) (· = e) h h' → Exc h' e dx tp (.ref T) msg → TbOk h' T → Q () ⟨h', gs, dr, t, os⟩) : wpAny M A (leaving env (.ref e)) Q E ⟨h, gs, dr, t, os⟩ := by
  unfold leaving
  refine wpAny_bind (note1 hfr hl hf X hdx hde fun h₁ T hT t₁ X₁ ht => ?_)
  obtain ⟨oT, ts, x1, x2, x3⟩ := ht
  have hTe : T ≠ e := fun q => by rw [q, X.ob] at hT; cases hT
  have hTd : T ≠ dx := fun q => by obtain ⟨es, n, y, _⟩ := X.di; rw [q, y] at hT; cases hT
  have h3 : 3 < ts.size := (Array.getElem?_eq_some_iff.mp x3).1
  refine set_flight X₁ x1 x2 h3 hTe hTd fun h₂ ex X₂ tb => q h₂ T hT ⟨fun b o hb hx e' => ex b o (fun q => by rw [q, hT] at e'; cases e') (t₁.keep b o hb hx e'), fun b o hb e' => ?_⟩ X₂ tb
  obtain ⟨sl, z⟩ := t₁.slots b o hb e'
  exact ⟨sl, ex b _ (fun q => by rw [q, hT] at e'; cases e') z⟩

/-- behind a for loop: noted, handed on, left -/
theorem leave_for {outer : List Env} {L e dx : Addr} {tp msg : Value} {E' : Value → Shared → Prop}
    (hfr : A.frames = some (env :: outer)) (hl : FrOk h (env :: outer)) (hf : env.frame = some L) (X : Exc h e dx tp .none msg) (hdx : dx ∉ frs (env :: outer)) (hde : e ≠ dx) {prog : Program} {E₀ : Value → Shared → Prop}
    (hE : E' = fun x s' => wpAny (model prog w) A (leaving env x) (fun _ s'' => E₀ x s'') (fun e' s'' => E₀ e' s'') s')
    (q : ∀ h' T, h.get? T = none → Thr (env :: outer) (· = e) h h' → Exc h' e dx tp (.ref T) msg → TbOk h' T → E₀ (.ref e) ⟨h', gs, dr, t, os⟩) : ForErr prog w A E' env (.ref e) ⟨h, gs, dr, t, os⟩ := by
  subst hE
  unfold ForErr notedBy cameBackBy
  refine note1 hfr hl hf X hdx hde fun h₁ T hT t₁ X₁ ht => ?_
  obtain ⟨oT, ts, x1, x2, x3⟩ := ht
  have hTe : T ≠ e := fun q => by rw [q, X.ob] at hT; cases hT
  have hTd : T ≠ dx := fun q => by obtain ⟨es, n, y, _⟩ := X.di; rw [q, y] at hT; cases hT
  have h3 : 3 < ts.size := (Array.getElem?_eq_some_iff.mp x3).1
  refine wpAny_bind (wpAny_field X₁.ob rfl (x := .ref T) rfl ?_)
  rw [if_neg (by simp)]
  rw [hf]
  refine set_flight X₁ x1 x2 h3 hTe hTd fun h₂ ex X₂ ht₂ => ?_
  obtain ⟨oT₂, ts₂, y1, y2, y3⟩ := ht₂
  have h3' : 3 < ts₂.size := (Array.getElem?_eq_some_iff.mp y3).1
  unfold leaving noteFrame
  simp only [hf]
  refine wpAny_bind (wpAny_bind (wpAny_field X₂.ob rfl (x := .ref T) rfl ?_))
  rw [if_pos (show (Value.ref T != Value.none) = true from by simp)]
  refine wpAny_bind (wpAny_field y1 y2 y3 ?_)
  rw [if_pos (by simp)]
  refine wpAny_pure ?_
  refine set_flight (f := none) X₂ y1 y2 h3' hTe hTd fun h₃ ex₃ X₃ tb => ?_
  have nT : ∀ {b : Addr} {o : Obj}, h.get? b = some o → b ≠ T := fun e' q => by rw [q, hT] at e'; cases e'
  refine q h₃ T hT ⟨fun b o hb hx e' => ex₃ b o (nT e') (ex b o (nT e') (t₁.keep b o hb hx e')), fun b o hb e' => ?_⟩ X₃ tb
  obtain ⟨sl, z⟩ := t₁.slots b o hb e'
  exact ⟨sl, ex₃ b _ (nT e') (ex b _ (nT e') z)⟩

/-- what a caller sees when a callee has raised -/
structure Thrown (outer : List Env) (h h' : Heap) (e : Addr) (msg : Value) : Prop where
  keep : ∀ b o, b ∉ frs outer → h.get? b = some o → h'.get? b = some o
  slots : ∀ b o, b ∈ frs outer → h.get? b = some o → ∃ sl, h'.get? b = some { o with slots := sl }
  exc : ∃ dx tp T, Exc h' e dx tp (.ref T) msg ∧ h.get? dx = none ∧ h.get? T = none ∧ TbOk h' T ∧ e ≠ dx ∧ T ≠ e
  new : h.get? e = none

/-- the frame of a def that raises -/
structure Rai (A : Around) (outer : List Env) (env : Env) (h₀ h : Heap) (e dx : Addr) (tp msg : Value) : Prop where
  fr : A.frames = some (env :: outer)
  ok : FrOk h (env :: outer)
  dxn : dx ∉ frs (env :: outer)
  thrown : ∀ h' T, h.get? T = none → T ≠ e → Thr (env :: outer) (· = e) h h' → Exc h' e dx tp (.ref T) msg → TbOk h' T → Thrown outer h₀ h' e msg
theorem rai {outer : List Env} {e dx : Addr} {tp msg : Value} (F : Fn w NoW g₀ h₀ env μ m g h) (hfr : A.frames = some (env :: outer)) (hk : FrOk h₀ outer) (hf : env.frame = some env.locals) {h₂ : Heap} (hs : Sub h h₂) (he : h.get? e = none) (hd : h.get? dx = none) (hed : e ≠ dx) (_ : Exc h₂ e dx tp .none msg) : Rai A outer env h₀ h₂ e dx tp msg := by
  have he0 := F.gr.dom _ he
  have hd0 := F.gr.dom _ hd
  have kp : ∀ b o, h₀.get? b = some o → h₂.get? b = some o := fun b o q => hs _ _ (F.gr.keep0 b o q)
  have ok : FrOk h₂ (env :: outer) := by
    intro x hx
    rcases List.mem_cons.mp hx with rfl | hx
    · obtain ⟨ml, ⟨o, es, ep, q1, q2, _⟩, _⟩ := F.V.ns
      exact ⟨by rw [F.V.kind]; decide, _, o, hf, hs _ _ q1, fun vs q => by rw [q2] at q; cases q⟩
    · obtain ⟨k1, L, o, k2, k3, k4⟩ := hk x hx
      exact ⟨k1, L, o, k2, kp _ _ k3, k4⟩
  have dxn : dx ∉ frs (env :: outer) := fun q => by
    unfold frs at q
    rw [List.filterMap_cons, hf] at q
    rcases List.mem_cons.mp q with q | q
    · obtain ⟨o, e'⟩ := F.V.there (.inl rfl : Own env env.locals); rw [← q, hd] at e'; cases e'
    · obtain ⟨o, e', _⟩ := hk.mem q; rw [hd0] at e'; cases e'
  have hn : ∀ b, h₂.get? b = none → h₀.get? b = none := fun b e => by
    cases q : h₀.get? b with
    | none => rfl
    | some o => rw [kp b o q] at e; cases e
  refine ⟨hfr, ok, dxn, fun h' T hT hTe t X tb => ⟨fun b o hb q => ?_, fun b o hb q => ?_, ⟨dx, tp, T, X, hd0, hn _ hT, tb, hed, hTe⟩, he0⟩⟩
  · refine t.keep b o (fun z => ?_) (fun z => by rw [z, he0] at q; cases q) (kp _ _ q)
    unfold frs at z
    rw [List.filterMap_cons, hf] at z
    rcases List.mem_cons.mp z with z | z
    · rw [z, F.new _ (.inl rfl)] at q; cases q
    · exact hb z
  · refine t.slots b o ?_ (kp _ _ q)
    unfold frs
    rw [List.filterMap_cons, hf]
    exact .tail _ hb

theorem note2 {outer : List Env} {L e dx T : Addr} {tp msg : Value} {Q : Unit → Shared → Prop}
    (hfr : A.frames = some (env :: outer)) (hl : FrOk h (env :: outer)) (hf : env.frame = some L) (X : Exc h e dx tp (.ref T) msg) (hT : TbOk h T) (hdx : dx ∉ frs (env :: outer)) (hde : e ≠ dx) (hTe : T ≠ e) (hTd : T ≠ dx)
    (q : ∀ h' T', h.get? T' = none → Thr (env :: outer) (fun b => b = e ∨ b = T) h h' → Exc h' e dx tp (.ref T') msg → (∃ oT ts, h'.get? T' = some oT ∧ oT.data = .fields ts ∧ ts[3]? = some (rawInt L)) → Q () ⟨h', gs, dr, t, os⟩) : wpAny M A (noteFrame (.ref e) env) Q E ⟨h, gs, dr, t, os⟩ := by
  obtain ⟨oT, ts, a1, a2, a3⟩ := hT
  have h3 : 3 < ts.size := (Array.getElem?_eq_some_iff.mp a3).1
  unfold noteFrame
  simp only [hf]
  refine wpAny_bind (wpAny_field X.ob rfl (x := .ref T) rfl ?_)
  rw [if_pos (show (Value.ref T != Value.none) = true from by simp)]
  refine wpAny_bind (wpAny_field a1 a2 a3 ?_)
  rw [if_neg (show ¬ ((Value.none == rawInt L) = true) from by simp [rawInt])]
  have hd' := Obj.data_mapFields a2 (·.setIfInBounds 3 Value.none)
  refine wpAny_bind (wpAny_setField a1 a2 h3 ?_)
  have oth : ∀ b, b ≠ T → (h.update T (Obj.mapFields (·.setIfInBounds 3 Value.none))).get? b = h.get? b := fun b hb => Heap.get?_update_other _ _ (Ne.symm hb)
  have hTT := Heap.get?_update_self (Obj.mapFields (·.setIfInBounds 3 Value.none)) a1 (Obj.isFreed_of_fields hd')
  have hsz : (h.update T (Obj.mapFields (·.setIfInBounds 3 Value.none))).objs.size = h.objs.size := Heap.size_after_update ..
  generalize (h.update T (Obj.mapFields (·.setIfInBounds 3 Value.none))) = H at oth hTT hsz ⊢
  have hTf : T ∉ frs (env :: outer) := fun hm => by
    obtain ⟨o, ho, hnf⟩ := hl.mem hm
    rw [a1] at ho; cases ho; exact hnf _ a2
  have hlH : FrOk H (env :: outer) := fun x hx => by
    obtain ⟨k1, L', o, k2, k3, k4⟩ := hl x hx
    exact ⟨k1, L', o, k2, (oth L' (fun q => by rw [q, a1] at k3; cases k3; exact k4 _ a2)).trans k3, k4⟩
  have heH : H.get? e = some (excObj tp (.ref T) (some dx)) := (oth e (Ne.symm hTe)).trans X.ob
  have hene : e ∉ frs (env :: outer) := fun hm => by
    obtain ⟨o, ho, hnf⟩ := hl.mem hm
    rw [X.ob] at ho; cases ho; exact hnf _ rfl
  refine wpAny_bind (wpAny_frameOf_fun hfr hlH.fun hf fun h₁ hs₁ => ?_)
  refine wpAny_bind (wpAny_entryPlaceOf fun pl hpl => ?_)
  unfold EntryCells.newEntry newFields
  refine wpAny_bind (wpAny_newObj_type ?_ (hpl.sizeOk5 _ _ _ _ _))
  have he₁ : h₁.get? e = some (excObj tp (.ref T) (some dx)) := (hs₁.2.1 e hene).trans heH
  have he₂ := Heap.get?_push_of_some (h := h₁) { cls := .type "traceback", dict := none, data := .fields ([Value.ref T, .ref L, .none, rawInt L, .none] ++ (if pl.isEmpty then List.replicate 6 Value.none else pl)).toArray } he₁
  refine wpAny_setField he₂ rfl (by simp) ?_
  have hTe' : h₁.objs.size ≠ e := Nat.ne_of_gt (Heap.lt_size he₁)
  have hd₃ := Obj.data_mapFields (o := excObj tp (.ref T) (some dx)) rfl (·.setIfInBounds 1 (Value.ref h₁.objs.size))
  have he₃ := Heap.get?_update_self (Obj.mapFields (·.setIfInBounds 1 (Value.ref h₁.objs.size))) he₂ (Obj.isFreed_of_fields hd₃)
  have hT₃ := (Heap.get?_update_other (h₁.push { cls := .type "traceback", dict := none, data := .fields ([Value.ref T, .ref L, .none, rawInt L, .none] ++ (if pl.isEmpty then List.replicate 6 Value.none else pl)).toArray })
    (Obj.mapFields (·.setIfInBounds 1 (Value.ref h₁.objs.size))) (Ne.symm hTe')).trans (Heap.get?_push_size h₁ rfl)
  have keep : ∀ b o, b ≠ e → h₁.get? b = some o → ((h₁.push { cls := .type "traceback", dict := none, data := .fields ([Value.ref T, .ref L, .none, rawInt L, .none] ++ (if pl.isEmpty then List.replicate 6 Value.none else pl)).toArray }).update e (Obj.mapFields (·.setIfInBounds 1 (Value.ref h₁.objs.size)))).get? b = some o := fun b o hbe hb => by
    rw [Heap.get?_update_other _ _ (Ne.symm hbe)]
    exact Heap.get?_push_of_some _ hb
  refine q _ h₁.objs.size (get_none_of (Nat.le_of_eq (hs₁.1.trans hsz).symm)) ⟨fun b o hb hx e' => keep b o (fun q => hx (.inl q)) ((hs₁.2.1 b hb).trans ((oth b (fun q => hx (.inr q))).trans e')), fun b o hb e' => ?_⟩ ⟨he₃, ?_⟩ ⟨_, _, hT₃, rfl, by simp⟩
  · obtain ⟨sl, z⟩ := hs₁.2.2 b o ((oth b (fun q => hTf (q ▸ hb))).trans e')
    exact ⟨sl, keep b _ (fun q => hene (q ▸ hb)) z⟩
  · obtain ⟨es, n, x1, x2⟩ := X.di
    exact ⟨es, n, keep dx _ (Ne.symm hde) ((hs₁.2.1 dx hdx).trans ((oth dx (Ne.symm hTd)).trans x1)), x2⟩

/-- a caller's frame behind a callee's raise -/
theorem Fn.thrown {h' : Heap} {outer : List Env} (F : Fn w NoW g₀ h₀ env μ m g h) (hf : env.frame = some env.locals) (hout : ∀ b ∈ frs outer, g.get? b = none ∧ ¬ Own env b ∧ (∀ p ∈ μ, p.1 ≠ b) ∧ h₀.get? b = none) (hk : ∀ b o, b ∉ frs (env :: outer) → h.get? b = some o → h'.get? b = some o) (hs : ∀ b o, b ∈ frs (env :: outer) → h.get? b = some o → ∃ sl, h'.get? b = some { o with slots := sl })
    (P : Addr → Prop) (hP : ∀ b, P b → h.get? b = none) : Fn w NoW g₀ h₀ env μ m (plus g h' P) h' := by
  have hfrs : frs (env :: outer) = env.locals :: frs outer := by unfold frs; rw [List.filterMap_cons, hf]
  rw [hfrs] at hk hs
  have kp : ∀ b o, b ≠ env.locals → b ∉ frs outer → h.get? b = some o → h'.get? b = some o := fun b o n1 n2 e => hk b o (fun q => (List.mem_cons.mp q).elim n1 n2) e
  have sub1 : Sub g h' := fun b o e => kp b o (fun q => by rw [q, F.out _ (.inl rfl)] at e; cases e) (fun q => by rw [(hout b q).1] at e; cases e) (F.sub b o e)
  have dom : ∀ b, h'.get? b = none → h.get? b = none := fun b e => by
    cases q : h.get? b with
    | none => rfl
    | some o =>
      by_cases hb : b ∈ env.locals :: frs outer
      · obtain ⟨sl, z⟩ := hs b o hb q; rw [z] at e; cases e
      · rw [hk b o hb q] at e; cases e
  have V' : Vars env h' m := by
    have V := F.V
    refine ⟨V.kind, ?_, fun x c hc => ?_, V.apart, V.above, V.glob, V.blt, V.ck⟩
    · obtain ⟨ml, ⟨o, es, ep, q1, q2, q3⟩, q4⟩ := V.ns
      obtain ⟨sl, z⟩ := hs _ o (.head _) q1
      exact ⟨ml, ⟨_, es, ep, z, q2, q3⟩, q4⟩
    · obtain ⟨o, a, b⟩ := V.cell x c hc
      exact ⟨o, kp c o (Ne.symm (V.above x c (mem_of_lookup hc))) (fun q => (hout c q).2.1 (.inr ⟨x, hc⟩)) a, b⟩
  refine ⟨⟨V', plus_sub, fun b ob => ?_, F.W.mono (plus_le sub1)⟩, ⟨F.gr.le.trans (plus_le sub1), plus_sub, fun b o e => ?_, fun b o _ e => ?_, fun b e => F.gr.dom b (dom b e)⟩, F.new, F.wrn, fun p hp => ?_, F.dis⟩
  · cases e : (plus g h' P).get? b with
    | none => rfl
    | some o =>
      rcases plus_new sub1 b o e with q | q
      · rw [F.out b ob] at q; cases q
      · obtain ⟨o', e'⟩ := F.V.there ob; rw [hP b q] at e'; cases e'
  · rcases plus_new sub1 b o e with q | q
    · exact F.gr.new b o q
    · exact .inr (F.gr.dom b (hP b q))
  · refine kp b o (fun q => by rw [q, F.new _ (.inl rfl)] at e; cases e) (fun q => by rw [(hout b q).2.2.2] at e; cases e) (F.gr.keep0 b o e)
  · obtain ⟨e1, e2, e3, e4⟩ := F.led p hp
    refine ⟨kp _ _ (fun q => e4 (q ▸ .inl rfl)) (fun q => (hout _ q).2.2.1 p hp rfl) e1, ?_, e3, e4⟩
    cases e : (plus g h' P).get? p.1 with
    | none => rfl
    | some o =>
      rcases plus_new sub1 _ o e with q | q
      · rw [e2] at q; cases q
      · rw [hP _ q] at e1; cases e1
end
end
section
set_option maxRecDepth 100000
set_option maxHeartbeats 4000000
open PySem PySem.W PySem.Calls PyProof.Rows
open PySem Builtin Builtin.ObjectAttr
open PySem.SeqAt (EqAt RcAt)
def dele (m : Str → Option Value) (x : Str) (v : Option Value) : Str → Option Value := fun y => if y = x then v else m y
theorem dele_ne {m : Str → Option Value} {x y : Str} {v : Option Value} (h : y ≠ x) : dele m x v y = m y := if_neg h
end
local macro_rules | `(tactic| walk_at "m") => `(tactic| with_unfolding_all first | rfl | assumption | exact (upd_ne (by decide)).trans (by walk_at "m") | exact (dele_ne (by decide)).trans (by walk_at "m"))
section
set_option maxRecDepth 100000
set_option maxHeartbeats 4000000
open PySem PySem.W PySem.Calls PyProof.Rows
open PySem Builtin Builtin.ObjectAttr
open PySem.SeqAt (EqAt RcAt)

def ExcF (g : Heap) (e : Addr) (msg : Value) : Prop := ∃ dx tp tb, Exc g e dx tp tb msg
theorem ExcF.up {g h : Heap} {e : Addr} {msg : Value} (x : ExcF g e msg) (s : Sub g h) : ExcF h e msg := let ⟨dx, tp, tb, a, es, n, b, c⟩ := x; ⟨dx, tp, tb, s _ _ a, es, n, s _ _ b, c⟩

section
variable {w : World} {A : Around} {E : Value → Shared → Prop} {env : Env} {g h g₀ h₀ : Heap} {gs : Array GenState} {dr : Drawn} {t : Nat} {os : OsState} {m : Str → Option Value} {n : Nat} {wr : Addr → Prop} {μ : List (Addr × Obj)}

theorem name_goes {M : Model} {x : Str} {pos : Pos} {Q : Unit → Shared → Prop} (F : Fn w wr g₀ h₀ env μ m g h) (hx : isLocal env x = true)
    (q : ∀ h' t' v, Fn w wr g₀ h₀ env μ (dele m x v) g h' → Q () ⟨h', gs, dr, t', os⟩) : wpAny M A (do bindName env x .none; unbindBehindTheSuite env x pos) Q E ⟨h, gs, dr, t, os⟩ := by
  refine wpAny_bind (bind_any F.V (by rw [hx]; rfl) fun h₁ t₁ a V₁ ha hs₁ => ?_)
  have F₁ := F.store V₁ ha hs₁.extBut
  have hx' := hx
  simp only [isLocal, Bool.and_eq_true, beq_iff_eq, Bool.not_eq_true'] at hx'
  obtain ⟨ml, n₁, e₁⟩ := V₁.ns
  have hp : (env.scope.kind == .class || (env.scope.kind == .module && env.locals != env.globals)) = false := by rw [V₁.kind]; rfl
  unfold unbindBehindTheSuite
  refine wpAny_onRaise ?_
  unfold unbindName
  refine wpAny_bind (wpAny_point (wpAny_bind ?_))
  unfold deleteName
  simp only [hx'.1, hp]
  rw [if_neg (by decide)]
  refine wpAny_bind (wpAny_nsDel_keeps n₁ fun h₂ v hn₂ hs₂ => ?_)
  have hsome : (ml x).isSome = true := by rw [e₁ x hx'.1, upd_self]; rfl
  simp only [hsome, Bool.not_true, Bool.false_eq_true, if_false]
  refine wpAny_pure (wpAny_point (q h₂ _ v ?_))
  refine F₁.mut hs₂.extBut (F₁.new _ (.inl rfl)) (F₁.out _ (.inl rfl)) ⟨V₁.kind, ⟨_, hn₂, fun y hy => ?_⟩, fun y c hc => ?_, V₁.apart, V₁.above, V₁.glob, V₁.blt, V₁.ck⟩ (fun p hp => .inr ⟨fun q => (F₁.led p hp).2.2.2 (q ▸ .inl rfl), hp⟩) F₁.dis
  · by_cases hyx : y = x
    · simp only [hyx, dele, if_true]
    · simp only [dele, if_neg hyx]; rw [e₁ y hy, upd_ne hyx]
  · have hyx : y ≠ x := fun q => V₁.ck y c hc (q ▸ hx'.1)
    have z := V₁.cell y c hc
    rw [upd_ne hyx] at z
    rw [dele_ne hyx]
    exact z.sameBut hs₂ (Ne.symm (V₁.above y c (mem_of_lookup hc)))

def TryErr (w : World) (A : Around) (env : Env) (Q : Flow → Shared → Prop) (E : Value → Shared → Prop) (hs : List ExceptHandler) (e : Value) (s : Shared) : Prop :=
  wpAny (model PR w) A (noteFrame e env) (fun _ s₂ => wpAny (model PR w) A (setFlight e none) (fun _ s₃ => wpAny (model PR w) A (handleBy e env hs) Q E s₃) E s₂) E s

theorem try_stmt {body : List Stmt} {h₀ : ExceptHandler} {hs : List ExceptHandler} {pos : Pos} {Q : Flow → Shared → Prop} {s : Shared}
    (h : wpAny (model PR w) A (execs body env) Q (TryErr w A env Q E (h₀ :: hs)) s) : wpAny (model PR w) A (exec (.Try body (h₀ :: hs) [] [] pos) env) Q E s := by
  refine wpAny_Try_except (wpAny_mono h (fun f s₁ q => ?_) fun _ _ z => z)
  cases f <;> first | exact wpAny_execs_nil q | exact q

theorem try_caught {e : Addr} {msg : Value} {h₁ : Heap} {x : Str} {p1 p2 p3 p4 p5 : Pos} {n : Str} {Q : Flow → Shared → Prop} (hfr : A.frames = some [env]) (hf : env.frame = some env.locals) (F : Fn w NoW g₀ h₀ env μ m g h) (T : Thrown [env] h h₁ e msg)
    (hn : isLocal env n = true) (hx : isLocal env x = true) (hxn : x ≠ n) (hR : isGlob env "Refusal" = true) (hsw : swapsWith (.Name n p3) (some (.Name x p2)) p4.line env = pure false)
    (q : ∀ g' h' t' v, Fn w NoW g₀ h₀ env μ (dele (upd (upd m n (.ref e)) x (.ref e)) n v) g' h' → Sub g g' → ExcF g' e msg → Q .next ⟨h', gs, dr, t', os⟩) :
    TryErr w A env Q E [.ExceptHandler (some (.Name "Refusal" p1)) (some n) [.Assign [.Name x p2] (.Name n p3) p4] p5] (.ref e) ⟨h₁, gs, dr, t, os⟩ := by
  obtain ⟨dx, tp, Tb, X, hdx, hTb, tb, hed, hTbe⟩ := T.exc
  have hfrs : frs [env] = [env.locals] := by unfold frs; rw [List.filterMap_cons, hf]; rfl
  obtain ⟨ml, ⟨o, es, ep, q1, q2, q3⟩, q4⟩ := F.V.ns
  have fresh : ∀ {b}, h.get? b = none → b ≠ env.locals := fun e q => by rw [q, q1] at e; cases e
  have ok1 : ∀ {H : Heap}, (∃ sl, H.get? env.locals = some { o with slots := sl }) → FrOk H [env] := fun ⟨sl, z⟩ y hy => by
    rw [List.mem_singleton] at hy
    subst hy
    exact ⟨by rw [F.V.kind]; decide, _, _, hf, z, fun vs q => by rw [show o.data = _ from q] at q2; cases q2⟩
  have l1 := T.slots env.locals o (by rw [hfrs]; exact .head _) q1
  unfold TryErr
  refine note2 hfr (ok1 l1) hf X tb (by rw [hfrs]; simpa using fresh hdx) hed hTbe (fun q => ?_) fun h₂ T' hT' t₂ X₂ td => ?_
  · rw [q] at tb; obtain ⟨oT, ts, a, b, c⟩ := tb; obtain ⟨es, n, a', _⟩ := X.di; rw [a'] at a; cases a; cases b
  obtain ⟨oT, ts, x1, x2, x3⟩ := td
  have h3 : 3 < ts.size := (Array.getElem?_eq_some_iff.mp x3).1
  have hTe : T' ≠ e := fun q => by rw [q, X.ob] at hT'; cases hT'
  have hTd : T' ≠ dx := fun q => by obtain ⟨es, n, y, _⟩ := X.di; rw [q, y] at hT'; cases hT'
  have hTl : T' ≠ env.locals := fun q => by obtain ⟨sl, z⟩ := l1; rw [q, z] at hT'; cases hT'
  have old : ∀ {b o}, h.get? b = some o → b ≠ e ∧ b ≠ Tb := fun e' => ⟨fun q => (by rw [q, T.new] at e'; cases e'), fun q => (by rw [q, hTb] at e'; cases e')⟩
  have k2 : ∀ b o, b ∉ frs [env] → h.get? b = some o → h₂.get? b = some o := fun b o hb e' => t₂.keep b o hb (fun q => q.elim (old e').1 (old e').2) (T.keep b o hb e')
  have s2 : ∀ b o, b ∈ frs [env] → h.get? b = some o → ∃ sl, h₂.get? b = some { o with slots := sl } := fun b o hb e' => by
    obtain ⟨sl, z⟩ := T.slots b o hb e'
    obtain ⟨sl', z'⟩ := t₂.slots b _ hb z
    exact ⟨sl', z'⟩
  have nT : ∀ {b o}, h.get? b = some o → b ≠ T' := fun {b o} e' q => by
    have : ∃ o', h₁.get? b = some o' := by
      by_cases hb : b ∈ frs [env]
      · obtain ⟨sl, z⟩ := T.slots b o hb e'; exact ⟨_, z⟩
      · exact ⟨o, T.keep b o hb e'⟩
    obtain ⟨o', z⟩ := this
    rw [q, hT'] at z; cases z
  refine set_flight X₂ x1 x2 h3 hTe hTd fun h₃ ex₃ X₃ td₃ => ?_
  obtain ⟨oT₃, ts₃, y1, y2, y3⟩ := td₃
  have h3' : 3 < ts₃.size := (Array.getElem?_eq_some_iff.mp y3).1
  have F₃ := F.thrown (outer := []) (h' := h₃) hf (fun b hb => by cases hb) (fun b o hb e' => ex₃ b o (nT e') (k2 b o hb e')) (fun b o hb e' => by obtain ⟨sl, z⟩ := s2 b o hb e'; exact ⟨sl, ex₃ b _ (nT e') z⟩) (fun b => b = e ∨ b = dx) (fun b q => q.elim (fun q => q ▸ T.new) fun q => q ▸ hdx)
  refine wpAny_handleBy_cons (codeAny_handlers_test ?_) (by intro q; cases q)
  refine x_tab F₃.toEx hR rfl ?_
  refine wpAny_excMatches_sub_self (exc_lk75 F₃.Wh) X₃.ob rfl (by decide) ?_
  rw [if_pos rfl]
  refine codeAny_handlers_suite_as ?_
  refine set_flight X₃ y1 y2 h3' hTe hTd fun h₄ ex₄ X₄ td₄ => ?_
  have F₄ := F.thrown (outer := []) (h' := h₄) hf (fun b hb => by cases hb) (fun b o hb e' => ex₄ b o (nT e') (ex₃ b o (nT e') (k2 b o hb e'))) (fun b o hb e' => by obtain ⟨sl, z⟩ := s2 b o hb e'; exact ⟨sl, ex₄ b _ (nT e') (ex₃ b _ (nT e') z)⟩) (fun b => b = e ∨ b = dx) (fun b q => q.elim (fun q => q ▸ T.new) fun q => q ▸ hdx)
  have XF : ExcF (plus g h₄ fun b => b = e ∨ b = dx) e msg := by
    obtain ⟨es', n', z1, z2⟩ := X₄.di
    exact ⟨dx, tp, _, plus_at (.inl rfl) X₄.ob, es', n', plus_at (.inr rfl) z1, z2⟩
  refine store_any F₄.V (by rw [hn]; rfl) fun h₅ t₅ a V₅ ha hs₅ => ?_
  have F₅ := F₄.store V₅ ha hs₅.extBut
  refine wpAny_execs_cons (wpAny_Assign_Name (x_loc F₅.toEx hn upd_self ?_) hsw)
  refine store_any F₅.V (by rw [hx]; rfl) fun h₆ t₆ a V₆ ha hs₆ => ?_
  have F₆ := F₅.store V₆ ha hs₆.extBut
  refine wpAny_execs_nil ?_
  refine name_goes F₆ hn fun h₇ t₇ v F₇ => ?_
  refine q _ h₇ t₇ v F₇ (plus_le ?_) XF
  intro b o e'
  have hl : b ≠ env.locals := fun q => by rw [q, F.out _ (.inl rfl)] at e'; cases e'
  have hh := F.sub b o e'
  exact ex₄ b o (nT hh) (ex₃ b o (nT hh) (k2 b o (by rw [hfrs]; simpa using hl) hh))
end
end
section
set_option maxRecDepth 100000
set_option maxHeartbeats 4000000
open PySem PySem.W PySem.Calls PyProof.Rows
open PySem.SeqAt (EqAt RcAt)
theorem any_er {α : Type} {xs : List Value} {ts : List α} {f : α → Value} {z : Value} (e : xs.map er = ts.map f) : (xs.any fun y => er y == z) = ts.any fun t => f t == z := by
  have h1 : (xs.any fun y => er y == z) = (xs.map er).any (· == z) := by rw [List.any_map]; rfl
  rw [h1, e, List.any_map]; rfl
theorem mm {α β γ : Type} (f : α → β) (g : β → γ) (l : List α) : l.map (fun a => g (f a)) = (l.map f).map g := by rw [List.map_map]; rfl
theorem eI_beq {a b : Int} : (eI a == Value.int b 0) = (a == b) := by rw [Bool.eq_iff_iff]; simp [eI]
theorem eS_beq {a b : Str} : (eS a == Value.str b 0) = (a == b) := by rw [Bool.eq_iff_iff]; simp [eS]
theorem any_eI {xs : List Value} {ns : List Int} {i : Int} (e : xs.map er = ns.map eI) : (xs.any fun y => er y == Value.int i 0) = ns.contains i := by
  rw [any_er e]
  have : (fun t => eI t == Value.int i 0) = fun t => t == i := by funext t; exact eI_beq
  rw [this]; exact List.any_beq'
theorem any_eS {xs : List Value} {ns : List Str} {i : Str} (e : xs.map er = ns.map eS) : (xs.any fun y => er y == Value.str i 0) = ns.contains i := by
  rw [any_er e]
  have : (fun t => eS t == Value.str i 0) = fun t => t == i := by funext t; exact eS_beq
  rw [this]; exact List.any_beq'

section
variable {w : World} {A : Around} {E : Value → Shared → Prop} {env : Env} {g h g₀ h₀ : Heap} {gs : Array GenState} {dr : Drawn} {t : Nat} {os : OsState} {m : Str → Option Value} {n : Nat} {wr : Addr → Prop} {μ : List (Addr × Obj)}

theorem call_e {wr : Addr → Prop} {f : Addr} {fd : FuncData} {vals : List Value} {binds : List (Str × Value)} {body : List Stmt} {oc : Value} {od : Option Addr} {osl : Array (Option Value)} {Q : Value → Shared → Prop} (sub : Sub g h) (W : Wd w g) (hroom : A.depth < recursionLimit)
    (ho : (KP w).lookup f = some ⟨oc, od, .func fd, osl⟩) (hb : fd.body = .stmts body) (hcode : codeIn (KP w) fd.code fd.qualname = true) (hclo : fd.closure = []) (hgl : fd.globals = mainGlobals) (hbl : fd.builtins = builtinsNs)
    (hbind : BindsTo ⟨h, gs, dr, t, os⟩ fd ⟨vals, []⟩ binds) (hok : frameOk fd.scope binds = true) (hwr : ∀ b, wr b → (∃ o, h.get? b = some o) ∧ g.get? b = none)
    (H : ∀ L h₁ t₁, Sub h h₁ → Fn w wr g h (callEnvC fd L f) [] (bindM binds) g h₁ → wpAny (model PR w) (A.deeper (callEnvC fd L f)) (execs body (callEnvC fd L f)) (fun fl s' => Q (match fl with | .ret v => v | _ => .none) s')
      (fun x s' => wpAny (model PR w) (A.deeper (callEnvC fd L f)) (leaving (callEnvC fd L f) x) (fun _ s'' => E x s'') (fun e' s'' => E e' s'') s') ⟨h₁, gs, dr, t₁, os⟩) :
    wpAny (model PR w) A (call (.ref f) vals) Q E ⟨h, gs, dr, t, os⟩ :=
  wpAny_call (call_fn (wr := wr) sub W hroom ho hb hcode hclo hgl hbl hbind hok hwr fun L h₁ t₁ K F => H L h₁ t₁ K F)

def numRows (ns : List Int) (count : Nat) : Option (List Int) :=
  if (ns.filter fun n => decide (n < 0)).length = 0 then some ((ns.filter fun n => decide (n > 0)).map fun n => n - 1)
  else if (ns.filter fun n => decide (n > 0)).length > 0 then none
  else some (((List.range count).filter fun (p : Nat) => !((ns.filter fun n => decide (n < 0)).map fun n => 0 - n).contains ((p : Int) + 1)).map fun (p : Nat) => (p : Int))
def mixMsg : Str := "can't mix positive and negative subscripts"

theorem c_numbered_rows {outer : List Env} {a : Addr} {xs : List Value} {ns : List Int} {count : Nat} {tk : Tok} {Q : Value → Shared → Prop} (R : Room A (n+3)) (hfr : A.frames = some outer) (hfo : FrOk h outer) (sub : Sub g h) (W : Wd w g) (hl : Lst g a xs) (hx : xs.map er = ns.map eI) (hn : ns.length ≤ 100) (hc : count ≤ 100)
    (q : ∀ b g' h' t' ys sp, Grow NoW g h g' h' → Lst g' b ys → ys.map er = sp.map eI → numRows ns count = some sp → Q (.ref b) ⟨h', gs, dr, t', os⟩)
    (qe : ∀ e h' t' tk, numRows ns count = none → Thrown outer h h' e (.str mixMsg tk) → E (.ref e) ⟨h', gs, dr, t', os⟩) :
    wpAny (model PR w) A (call (.ref 161) [.ref a, .int count tk]) Q E ⟨h, gs, dr, t, os⟩ := by
  refine call_e (wr := NoW) sub W R.room (f161 w).2 rfl (by kernel_rfl) rfl rfl rfl (.of_eq rfl) rfl (noWr _) fun L h₁ t₁ _ F => ?_
  have R' := R.deeper (callEnvC (f161 w).1 L 161)
  have len := len_map hx
  repeat walk_at "s"
  refine comp_expr rfl ?_
  repeat walk_at "s"
  refine comp_gen rfl (fun _ => rfl) rfl F (src_list R'.hd F.sub (hl.up (by walk_at "up"))) (by omega) ns len.symm (fun n => decide (n < 0)) (fun n => eI (0 - n)) (fun i a C g₁ h₁ t₁ v E' ha hP X G => ?_) fun D g₂ h₂ t₂ aw hD F le₂ lA eA => ?_
  · obtain ⟨a', ha', e⟩ := map_at hx hP
    rw [ha] at ha'; cases ha'
    obtain ⟨tk, rfl⟩ := er_int e
    refine tests_one ?_
    repeat walk_at "s"
    refine ⟨rfl, _, _, _, rfl, Grow.refl X.sub, fun _ => ?_⟩
    repeat walk_at "s"
    exact ⟨rfl, _, _, _, rfl, Grow.refl X.sub⟩
  repeat walk_at "s"
  rename_i F
  refine comp_assign rfl rfl ?_
  repeat walk_at "s"
  refine comp_gen_a rfl (fun _ => rfl) rfl rfl F (src_list R'.hd F.sub (hl.up (by walk_at "up"))) (by omega) ns len.symm (fun n => decide (n > 0)) (fun n => eI (n - 1)) (fun i a C g₁ h₁ t₁ v E' ha hP X G => ?_) fun D₂ g₃ h₃ t₃ tkn hD₂ F le₃ lT eT => ?_
  · obtain ⟨a', ha', e⟩ := map_at hx hP
    rw [ha] at ha'; cases ha'
    obtain ⟨tk, rfl⟩ := er_int e
    refine tests_one ?_
    repeat walk_at "s"
    refine ⟨rfl, _, _, _, rfl, Grow.refl X.sub, fun _ => ?_⟩
    repeat walk_at "s"
    exact ⟨rfl, _, _, _, rfl, Grow.refl X.sub⟩
  have lenA := len_map eA
  have lenT := len_map eT
  have bA : (ns.filter fun n => decide (n < 0)).length ≤ 100 := Nat.le_trans (List.length_filter_le _ _) hn
  have bT : (ns.filter fun n => decide (n > 0)).length ≤ 100 := Nat.le_trans (List.length_filter_le _ _) hn
  repeat walk_at "s"
  refine l_len (lA.up (by walk_at "up")) (by omega) fun _ _ => ?_
  repeat walk_at "s"
  refine ite_s (fun hb => ?_) fun hb => ?_
  · repeat walk_at "s"
    refine q D₂ _ _ _ tkn _ F.gr lT (by rw [eT]; exact mm (fun n => n - 1) eI _) ?_
    have : (ns.filter fun n => decide (n < 0)).length = 0 := by rw [← lenA]; simpa using hb
    unfold numRows
    rw [if_pos this]
  have hA : ¬ (ns.filter fun n => decide (n < 0)).length = 0 := by rw [← lenA]; simpa using hb
  refine wpAny_execs_nil ?_
  repeat walk_at "s"
  refine l_len (lT.up (by walk_at "up")) (by omega) fun _ _ => ?_
  repeat walk_at "s"
  refine ite_s (fun hb => ?_) fun hb => ?_
  · have hT : (ns.filter fun n => decide (n > 0)).length > 0 := by rw [← lenT]; simpa using hb
    have hnone : numRows ns count = none := by unfold numRows; rw [if_neg hA, if_pos hT]
    refine wpAny_execs_cons (raise_exc R'.hd ?_)
    repeat walk_at "s"
    refine c_refusal R' F.sub F.W fun ex dx tp h₄ t₄ hex hdx hs X hed => ?_
    refine ⟨ex, dx, tp, _, rfl, F.Wh.mono hs, X, ?_⟩
    have rr := rai F (Around.frames_deeper hfr) hfo rfl hs hex hdx hed X
    refine leave1 rr.fr rr.ok rfl X rr.dxn hed fun h' T hT t X' tb => ?_
    exact qe _ _ _ _ hnone (rr.thrown h' T hT (fun q => by rw [q, X.ob] at hT; cases hT) t X' tb)
  have hT : ¬ (ns.filter fun n => decide (n > 0)).length > 0 := by rw [← lenT]; simpa using hb
  refine wpAny_execs_nil ?_
  repeat walk_at "s"
  refine comp_expr rfl ?_
  repeat walk_at "s"
  refine r_range F.sub fun r g₅ h₅ t₅ x y z hr G hrr => ?_
  have F := F.step0 G
  refine comp_gen rfl (fun _ => rfl) rfl F (src_range R'.hd (by omega) hrr) (by omega) (List.range count) (by simp) (fun (p : Nat) => !((ns.filter fun n => decide (n < 0)).map fun n => 0 - n).contains ((p : Int) + 1)) (fun (p : Nat) => eI (p : Int)) (fun i a C g₁ h₁ t₁ v E' ha hP X G => ?_) fun D₃ g₆ h₆ t₆ ys hD F le₆ lD eD => ?_
  · obtain ⟨tv, rfl⟩ := hP
    have hia : a = i := by have := List.getElem?_eq_some_iff.mp ha; obtain ⟨_, e⟩ := this; simpa using e.symm
    subst hia
    refine tests_one ?_
    repeat walk_at "s"
    refine l_notIn (lA.up (by walk_at "up")) (flats (f := eI) (fun _ _ => flat_eI) (ts := (ns.filter fun n => decide (n < 0)).map fun n => 0 - n) (by rw [eA]; exact mm (fun n => 0 - n) eI _)) rfl ?_
    repeat walk_at "s"
    refine ⟨?_, _, _, _, rfl, Grow.refl X.sub, fun _ => ?_⟩
    · rw [show er (Value.int ((a : Int) + 1) _) = Value.int ((a : Int) + 1) 0 from rfl, any_eI (ns := (ns.filter fun n => decide (n < 0)).map fun n => 0 - n) (by rw [eA]; exact mm (fun n => 0 - n) eI _)]
    · repeat walk_at "s"
      exact ⟨rfl, _, _, _, rfl, Grow.refl X.sub⟩
  refine q D₃ _ _ _ ys _ F.gr lD (by rw [eD]; exact mm (fun (p : Nat) => (p : Int)) eI _) ?_
  unfold numRows
  rw [if_neg hA, if_neg hT]

end
def eN (p : Nat) : Value := .int (p : Int) 0
theorem flat_eN {v : Value} {p : Nat} (e : er v = eN p) : flat v = true := by obtain ⟨_, rfl⟩ := er_int e; rfl
def keptRows (cols : List (List Bool)) (ps : List Nat) (action : Str) : Option (List Nat) :=
  if action = "omit" then some (ps.filter fun p => !poorAt cols p) else if action = "fail" then (if ps.any (fun p => poorAt cols p) then none else some ps) else some ps
def naMsg : Str := "missing values in object"
theorem isl_up {g h : Heap} {a : Addr} {xs : Array Value} (x : g.IsList a xs) (s : Sub g h) : h.IsList a xs := let ⟨o, e, r⟩ := x; ⟨o, s _ _ e, r⟩
section
variable {w : World} {A : Around} {E : Value → Shared → Prop} {env : Env} {g h g₀ h₀ : Heap} {gs : Array GenState} {dr : Drawn} {t : Nat} {os : OsState} {m : Str → Option Value} {n : Nat} {wr : Addr → Prop} {μ : List (Addr × Obj)}

theorem c_kept_rows {outer : List Env} {a c : Addr} {vs xs : List Value} {cols : List (List Bool)} {ps : List Nat} {count : Nat} {tk tka : Tok} {action : Str} {Q : Value → Shared → Prop} (R : Room A (n+3)) (hfr : A.frames = some outer) (hfo : FrOk h outer) (sub : Sub g h) (W : Wd w g)
    (hlc : Lst g c vs) (hcs : Cols w g vs cols) (hn : cols.length ≤ 100) (hcount : count ≤ 100) (hlen : ∀ bs ∈ cols, bs.length = count) (hl : Lst g a xs) (hx : xs.map er = ps.map eN) (hp : ∀ p ∈ ps, p < count) (hps : ps.length ≤ 100)
    (q : ∀ b g' h' t' ys sp, Grow NoW g h g' h' → Lst g' b ys → ys.map er = sp.map eN → keptRows cols ps action = some sp → Q (.ref b) ⟨h', gs, dr, t', os⟩)
    (qe : ∀ e h' t' tk, keptRows cols ps action = none → Thrown outer h h' e (.str naMsg tk) → E (.ref e) ⟨h', gs, dr, t', os⟩) :
    wpAny (model PR w) A (call (.ref 166) [.ref c, .ref a, .int count tk, .str action tka]) Q E ⟨h, gs, dr, t, os⟩ := by
  refine call_e (wr := NoW) sub W R.room (f166 w).2 rfl (by kernel_rfl) rfl rfl rfl (.of_eq rfl) rfl (noWr _) fun L h₁ t₁ _ F => ?_
  have R' := R.deeper (callEnvC (f166 w).1 L 166)
  have len := len_map hx
  repeat walk_at "s"
  refine c_missing_rows R' F.sub F.W hlc hcs hn hcount hlen fun b g₂ h₂ t₂ fs G lf lenf hf => ?_
  have F := F.step0 G
  repeat walk_at "s"
  rename Fn _ _ _ _ _ _ _ _ _ => F
  refine ite_s (fun hb => ?_) fun hb => ?_
  · repeat walk_at "s"
    refine comp_expr rfl ?_
    repeat walk_at "s"
    refine comp_gen rfl (fun _ => rfl) rfl F (src_list R'.hd F.sub (hl.up (by walk_at "up"))) (by omega) ps len.symm (fun p => !poorAt cols p) eN (fun i p C g₁ h₁ t₁ v E' ha hP X G => ?_) fun D g₃ h₃ t₃ ys hD F le₂ lA eA => ?_
    · obtain ⟨a', ha', e⟩ := map_at hx hP
      rw [ha] at ha'; cases ha'
      obtain ⟨tk, rfl⟩ := er_int e
      refine tests_one ?_
      repeat walk_at "s"
      refine l_itemI (isl_up lf (by walk_at "up")) rfl (hf p (hp p (List.mem_of_getElem? ha))) (by omega) ?_ (by with_unfolding_all rfl)
      repeat walk_at "s"
      refine ⟨rfl, _, _, _, rfl, Grow.refl X.sub, fun _ => ?_⟩
      repeat walk_at "s"
      exact ⟨rfl, _, _, _, rfl, Grow.refl X.sub⟩
    refine q D _ _ _ ys _ F.gr lA eA ?_
    unfold keptRows
    rw [if_pos (by simpa using hb)]
  have hb1 : ¬ action = "omit" := by simpa using hb
  refine wpAny_execs_nil ?_
  repeat walk_at "s"
  refine ite_s (fun hb => ?_) fun hb => ?_
  · have hb2 : action = "fail" := by simpa using hb
    refine wpAny_execs_cons (for_stmt ?_)
    repeat walk_at "s"
    refine for_k rfl F (src_list R'.hd F.sub (hl.up (by walk_at "up"))) (fun i μ m g => μ = [] ∧ (∀ j p, j < i → ps[j]? = some p → poorAt cols p = false) ∧ m "lacking" = some (.ref b) ∧ m "rows" = some (.ref a)) ⟨rfl, fun _ _ h => absurd h (Nat.not_lt_zero _), rfl, rfl⟩
      (fun i p μ' m' g' h' t' v hi hv inv F le => ?_) (fun μ' m' g' h' t' F le inv => ?_)
    · obtain ⟨rfl, hno, hm1, hm2⟩ := inv
      obtain ⟨pl, hpl, e⟩ := map_at hx hv
      obtain ⟨tk, rfl⟩ := er_int e
      repeat walk_at "s"
      refine l_itemI (isl_up lf (by walk_at "up")) rfl (hf pl (hp pl (List.mem_of_getElem? hpl))) (by omega) ?_ (by with_unfolding_all rfl)
      repeat walk_at "s"
      refine ite_s (fun hb => ?_) fun hb => ?_
      · have hnone : keptRows cols ps action = none := by
          unfold keptRows
          rw [if_neg hb1, if_pos hb2, if_pos (List.any_eq_true.mpr ⟨pl, List.mem_of_getElem? hpl, hb⟩)]
        refine wpAny_execs_cons (raise_exc R'.hd ?_)
        repeat walk_at "s"
        refine c_refusal R' F.sub F.W fun ex dx tp h₄ t₄ hex hdx hs X hed => ?_
        refine ⟨ex, dx, tp, _, rfl, F.Wh.mono hs, X, ?_⟩
        have rr := rai F (Around.frames_deeper hfr) hfo rfl hs hex hdx hed X
        refine leave_for rr.fr rr.ok rfl X rr.dxn hed rfl fun h' T hT t X' tb => ?_
        exact qe _ _ _ _ hnone (rr.thrown h' T hT (fun q => by rw [q, X.ob] at hT; cases hT) t X' tb)
      · refine wpAny_execs_nil (wpAny_execs_nil ?_)
        refine ⟨_, _, _, _, _, rfl, F, Sub.refl, rfl, fun j p hj hjp => ?_, by walk_at "m", by walk_at "m"⟩
        by_cases e : j = i
        · subst e; rw [hpl] at hjp; cases hjp; exact hb
        · exact hno j p (by omega) hjp
    · obtain ⟨rfl, hno, hm1, hm2⟩ := inv
      refine wpAny_execs_nil ?_
      repeat walk_at "s"
      refine q a _ _ _ xs ps F.gr (hl.up (by walk_at "up")) hx ?_
      unfold keptRows
      rw [if_neg hb1, if_pos hb2, if_neg]
      intro q
      obtain ⟨p, hp', hq⟩ := List.any_eq_true.mp q
      obtain ⟨j, hj⟩ := List.mem_iff_getElem?.mp hp'
      rw [hno j p (by rw [len]; exact (List.getElem?_eq_some_iff.mp hj).1) hj] at hq
      cases hq
  · have hb2 : ¬ action = "fail" := by simpa using hb
    refine wpAny_execs_nil ?_
    repeat walk_at "s"
    refine q a _ _ _ xs ps F.gr (hl.up (by walk_at "up")) hx ?_
    unfold keptRows
    rw [if_neg hb1, if_neg hb2]
end
end
section
set_option maxRecDepth 100000
set_option maxHeartbeats 4000000
open PySem PySem.W PySem.Calls PyProof.Rows
open PySem.SeqAt (EqAt RcAt)
section
variable {w : World} {A : Around} {E : Value → Shared → Prop} {env : Env} {g h g₀ h₀ : Heap} {gs : Array GenState} {dr : Drawn} {t : Nat} {os : OsState} {m : Str → Option Value} {n : Nat} {wr : Addr → Prop} {μ : List (Addr × Obj)} {K : Type} [DecidableEq K] {knd : KeyKind PR w K}

abbrev lob (xs : List Value) (n : Nat) : Obj := { cls := .type "list", data := .seq xs.toArray n }
theorem l_new {pos : Pos} {Q : Value → Shared → Prop} (F : Fn w wr g₀ h₀ env μ m g h) (q : ∀ a h', Fn w wr g₀ h₀ env ((a, lob [] 0) :: μ) m g h' → Q (.ref a) ⟨h', gs, dr, t, os⟩) :
    wpAny (model PR w) A (eval (.List [] pos) env) Q E ⟨h, gs, dr, t, os⟩ := l_display0 fun a h' ha hs he => q a h' (F.push ha hs he)

theorem l_appN {a : Addr} {xs : List Value} {k : Nat} {x : Value} (l1 : List (Addr × Obj)) {l2 : List (Addr × Obj)} {Q : Value → Shared → Prop} (F : Fn w wr g₀ h₀ env (l1 ++ (a, lob xs k) :: l2) m g h) (hn : xs.length ≤ 1000000)
    (q : ∀ h' k', Fn w wr g₀ h₀ env (l1 ++ (a, lob (xs ++ [x]) k') :: l2) m g h' → Q .none ⟨h', gs, dr, t, os⟩) : wpAny (model PR w) A (call (.builtin "list.append") [.ref a, x]) Q E ⟨h, gs, dr, t, os⟩ :=
  l_append (F.led _ (List.mem_append.mpr (.inr (.head _)))).1 hn fun h' k' e S => q h' k' (F.mutN l1 S.extBut e)

theorem d_setN {d : Addr} {o : Obj} {kvs : List (K × Value)} {k : K} {key v : Value} (l1 : List (Addr × Obj)) {l2 : List (Addr × Obj)} {Q : Unit → Shared → Prop} (F : Fn w wr g₀ h₀ env (l1 ++ (d, o) :: l2) m g h) (io : o.IsDictOf knd kvs) (hk : knd.is k key = true) (hz : kvs.length ≤ 1000)
    (q : ∀ h' t' o', Fn w wr g₀ h₀ env (l1 ++ (d, o') :: l2) m g h' → o'.IsDictOf knd (stored kvs k v) → Q () ⟨h', gs, dr, t', os⟩) : wpAny (model PR w) A (setItem (.ref d) key v) Q E ⟨h, gs, dr, t, os⟩ := by
  refine wpAny_setItem_pairs (s := ⟨h, gs, dr, t, os⟩) hk (Heap.dictOf_iff.mpr ⟨o, (F.led _ (List.mem_append.mpr (.inr (.head _)))).1, io⟩) (fun h' D' S => ?_) (by rw [sizeLine_eq]; omega)
  obtain ⟨o', e', i'⟩ := Heap.dictOf_iff.mp D'
  exact q h' _ o' (F.mutN l1 S.extBut e') i'

/-- pop of a list at an address that the callee may write -/
theorem l_pop {a : Addr} {xs : List Value} {k : Nat} {y : Value} {Q : Value → Shared → Prop} (hl : h.get? a = some (lob (xs ++ [y]) k)) (hn : xs.length ≤ 100000)
    (q : ∀ h', h'.get? a = some (lob xs (k + 1)) → Heap.SameBut a h h' → Q y ⟨h', gs, dr, t, os⟩) : wpAny (model PR w) A (call (.builtin "list.pop") [.ref a]) Q E ⟨h, gs, dr, t, os⟩ := by
  have hz' : (xs ++ [y]).toArray.size ≤ sizeLine := by rw [List.size_toArray, sizeLine_eq]; simp; omega
  have hk : (xs ++ [y]).toArray.size - 1 = xs.length := by rw [List.size_toArray, List.length_append]; rfl
  have hy : (xs ++ [y]).toArray[(xs ++ [y]).toArray.size - 1]? = some y := by rw [hk]; simp
  refine call_meets PySem.F.slot_list_pop ⟨_, hl, rfl⟩ PySem.F.entry_list_pop (PySem.F.args_list_pop_1 _) (PySem.MeetsSeq.list_pop_last a _ k y hy hz') ⟨hl, q _ ?_ (Heap.SameBut.update ..)⟩
  refine (Heap.get?_update_self _ hl rfl).trans ?_
  rw [hk]
  have e : (xs ++ [y]).eraseIdx xs.length = xs := by rw [List.eraseIdx_append_of_length_le (Nat.le_refl _)]; simp
  simp [Obj.mapSeq, lob, e]

theorem l_rev {a : Addr} {xs : List Value} {k : Nat} {Q : Value → Shared → Prop} (hl : h.get? a = some (lob xs k)) (hn : xs.length ≤ 100000)
    (q : ∀ h', (∃ k', h'.get? a = some (lob xs.reverse k')) → Heap.SameBut a h h' → Q .none ⟨h', gs, dr, t, os⟩) : wpAny (model PR w) A (call (.builtin "list.reverse") [.ref a]) Q E ⟨h, gs, dr, t, os⟩ := by
  refine call_meets PySem.F.slot_list_reverse ⟨_, hl, rfl⟩ PySem.F.entry_list_reverse (PySem.F.args_list_reverse_1 _) (PySem.AutoSeq1.list_reverse_list_0 a _ k (by rw [List.size_toArray, sizeLine_eq]; omega)) ⟨hl, q _ ?_ (Heap.SameBut.update ..)⟩
  have e := Heap.get?_update_self (Obj.mapSeq fun x => x.reverse) hl rfl
  exact ⟨k, e.trans (by simp [Obj.mapSeq, lob])⟩

theorem l_count {a : Addr} {xs : List Value} {x : Value} {Q : Value → Shared → Prop} (hl : Lst h a xs) (hf : ∀ y ∈ xs, flat y = true) (hx : flat x = true) (q : ∀ tk t', Q (.int (xs.countP (fun y => er y == er x) : Nat) tk) ⟨h, gs, dr, t', os⟩) :
    wpAny (model PR w) A (call (.builtin "list.count") [.ref a, x]) Q E ⟨h, gs, dr, t, os⟩ := by
  obtain ⟨k, e⟩ := hl
  refine call_meets (s := ⟨h, gs, dr, t, os⟩) PySem.F.slot_list_count ⟨_, e, rfl⟩ PySem.F.entry_list_count (PySem.F.args_list_count_2 _ _) (PySem.SeqAt.list_countAt a xs.toArray k none #[] x (fun y => er y == er x)) ⟨e, fun y hy => eqAt_flat (hf y (by simpa using hy)) hx, ?_⟩
  exact q _ _

theorem l_index {a : Addr} {xs : List Value} {x : Value} {j : Nat} {v : Value} {Q : Value → Shared → Prop} (hl : Lst h a xs) (hn : xs.length ≤ 100000) (hf : ∀ y ∈ xs, flat y = true) (hx : flat x = true) (hj : xs[j]? = some v) (hv : (er v == er x) = true) (hno : ∀ (i : Nat) u, i < j → xs[i]? = some u → (er u == er x) = false)
    (q : ∀ tk t', Q (.int (j : Nat) tk) ⟨h, gs, dr, t', os⟩) : wpAny (model PR w) A (call (.builtin "list.index") [.ref a, x]) Q E ⟨h, gs, dr, t, os⟩ := by
  obtain ⟨k, e⟩ := hl
  obtain ⟨hlt, hv'⟩ := List.getElem?_eq_some_iff.mp hj
  refine call_meets (s := ⟨h, gs, dr, t, os⟩) PySem.F.slot_list_index ⟨_, e, rfl⟩ PySem.F.entry_list_index (PySem.F.args_list_index_2 _ _) (PySem.SeqAt.list_indexAt a xs.toArray k none #[] x (fun y => er y == er x) j (by simpa using hlt) (by omega) (by simpa [hv'] using hv) (fun i hi hij => hno i _ hij (by simpa using List.getElem?_eq_getElem (by simpa using hi)))) ⟨e, fun y hy => eqAt_flat (hf y (by simpa using hy)) hx, ?_⟩
  exact q _ _

/-- xs[:k] -/
theorem l_slice {value upper : Expr} {p pos : Pos} {Q : Value → Shared → Prop}
    (hq : wpAny (model PR w) A (eval value env) (fun o s₁ => wpAny (model PR w) A (evalPart (some upper) env) (fun vu s₃ => ∃ a xs k tk g h t, o = .ref a ∧ s₃ = ⟨h, gs, dr, t, os⟩ ∧ vu = .int ((k : Nat) : Int) tk ∧ Sub g h ∧ h.IsList a (xs : List Value).toArray ∧ xs.length ≤ 1000000 ∧
      ∀ b g' h' k', h.get? b = none → Grow NoW g h g' h' → g'.get? b = some (lob (xs.take k) k') → Q (.ref b) ⟨h', gs, dr, t, os⟩) E s₁) E ⟨h, gs, dr, t, os⟩)
    (ht : ∀ o r, letTemporaryGo value o r = pure () := by intro _ _; rfl) : wpAny (model PR w) A (eval (.Subscript value (.Slice none (some upper) none p) pos) env) Q E ⟨h, gs, dr, t, os⟩ := by
  refine wpAny_Subscript_list_slice (wpAny_mono hq (fun o s₁ h₁ => ?_) fun _ _ z => z) ht
  rw [evalPart_none]
  refine wpAny_pure (wpAny_mono h₁ (fun vu s₃ h₃ => ?_) fun _ _ z => z)
  obtain ⟨a, xs, k, tk, g, h, t, rfl, rfl, rfl, sub, hl, hn, hh⟩ := h₃
  refine ⟨a, xs.toArray, none, some (k : Int), rfl, hl, by rw [List.size_toArray, sizeLine_eq]; omega, .none, .int _ _, ?_⟩
  rw [slicePick_upto']
  have k1 : Sub h ((h.push { cls := .type "slice", data := .fields #[.none, .int (k : Int) tk, .none] }).push (lob (xs.take k) 0)) := fun b o e => Heap.get?_push_of_some _ (Heap.get?_push_of_some _ e)
  have fr : h.get? (h.objs.size + 1) = none := get_none_of (Nat.le_succ _)
  exact hh (h.objs.size + 1) _ _ 0 fr (Grow.made sub k1 (fun b => b = h.objs.size + 1) fun b q => q ▸ fr) (plus_at rfl (Heap.get?_push_at (by rw [Heap.size_push]) rfl))
end
end
section
set_option maxRecDepth 100000
set_option maxHeartbeats 4000000
open PySem PySem.W PySem.Calls PyProof.Rows
open PySem.SeqAt (EqAt RcAt)
def strN (c : Nat) : Str := Str.ofString (toString (c : Int))
def headOf (s : Str) (c : Nat) : Str := if c = 0 then s else s ++ (("." : Str) ++ strN c)
def hAt (ss : List Str) (j : Nat) : Str := headOf (ss.getD j "") ((ss.take j).count (ss.getD j ""))
def headsL (ss : List Str) : List Str := (List.range ss.length).map (hAt ss)
theorem str_assoc (a b c : Str) : (a ++ b) ++ c = a ++ (b ++ c) := by
  obtain ⟨x⟩ := a; obtain ⟨y⟩ := b; obtain ⟨z⟩ := c
  show Str.mk ((x ++ y) ++ z) = Str.mk (x ++ (y ++ z)); rw [Array.append_assoc]
theorem strN_len {c : Nat} (h : c ≤ 200) : (strN c).length ≤ 300 := by
  have := PyProof.Rows.len_str_of_int (c : Int)
  unfold strN; omega
theorem take_succ_count {ss : List Str} {i : Nat} {x s : Str} (h : ss[i]? = some x) : (ss.take (i+1)).count s = (ss.take i).count s + (if s = x then 1 else 0) := by
  rw [List.take_add_one, h]
  by_cases e : s = x
  · subst e; simp [List.count_append]
  · have e' : ¬ x = s := fun q => e q.symm
    simp [List.count_append, e, e']

section
variable {w : World} {A : Around} {E : Value → Shared → Prop} {env : Env} {g h g₀ h₀ : Heap} {gs : Array GenState} {dr : Drawn} {t : Nat} {os : OsState} {m : Str → Option Value} {n : Nat} {wr : Addr → Prop} {μ : List (Addr × Obj)}

theorem c_unique_heads {a : Addr} {xs : List Value} {ss : List Str} {Q : Value → Shared → Prop} (R : Room A (n+2)) (sub : Sub g h) (W : Wd w g) (hl : Lst g a xs) (hx : xs.map er = ss.map eS) (hn : ss.length ≤ 100) (hlen : ∀ s ∈ ss, s.length ≤ 100)
    (q : ∀ b g' h' t' ys, Grow NoW g h g' h' → Lst g' b ys → ys.map er = (headsL ss).map eS → Q (.ref b) ⟨h', gs, dr, t', os⟩) :
    wpAny (model PR w) A (call (.ref 173) [.ref a]) Q E ⟨h, gs, dr, t, os⟩ := by
  refine call_v (wr := NoW) sub W R.room (f173 w).2 rfl (by kernel_rfl) rfl rfl rfl (.of_eq rfl) rfl (noWr _) fun L h₁ t₁ E' _ F => ?_
  have R' := R.deeper (callEnvC (f173 w).1 L 173)
  have len := len_map hx
  repeat walk_at "s"
  refine d_new (knd := sK w) F fun d h₂ o F hs io => ?_
  repeat walk_at "s"
  rename Fn _ _ _ _ _ _ _ _ _ => F
  refine l_new F fun f h₃ F => ?_
  repeat walk_at "s"
  rename Fn _ _ _ _ _ _ _ _ _ => F
  refine for_stmt ?_
  repeat walk_at "s"
  refine for_k rfl F (src_list R'.hd F.sub (hl.up (by walk_at "up"))) (fun i μ m g => ∃ fxs k o kvs, μ = [(f, lob fxs k), (d, o)] ∧ o.IsDictOf (sK w) kvs ∧ kvs.length ≤ i ∧ fxs.length = i ∧ fxs.map er = ((List.range i).map (hAt ss)).map eS ∧
      (∀ s, (valueAt kvs s).map er = if (ss.take i).count s = 0 then none else some (.int ((ss.take i).count s - 1) 0)) ∧ m "seen" = some (.ref d) ∧ m "found" = some (.ref f))
    ⟨[], 0, o, [], rfl, io, Nat.le_refl _, rfl, rfl, fun s => by simp [valueAt], rfl, rfl⟩
    (fun i p μ' m' g' h' t' v hi hv inv F le => ?_) (fun μ' m' g' h' t' F le inv => ?_)
  · obtain ⟨fxs, k, o, kvs, rfl, io, hk, lf, ef, hc, hm1, hm2⟩ := inv
    obtain ⟨s, hss, e⟩ := map_at hx hv
    obtain ⟨tk, rfl⟩ := er_str e
    have hcount : (ss.take i).count s ≤ 100 := Nat.le_trans (List.count_le_length ..) (by rw [List.length_take]; omega)
    have hslen := hlen s (List.mem_of_getElem? hss)
    have hget : ss.getD i "" = s := by simp [List.getD, hss]
    refine wpAny_execs_cons (wpAny_Assign_Subscript ?_)
    repeat walk_at "s"
    refine call_meth_b PySem.F.plainAttrs_dict PySem.F.slot_dict_get PySem.F.type_dict_get ?_
    repeat walk_at "s"
    have D : h'.DictOf (sK w) d kvs := Heap.dictOf_iff.mpr ⟨o, (F.led _ (.tail _ (.tail _ (.head _)))).1, io⟩
    refine ⟨Dct.ty D, ?_⟩
    repeat walk_at "s"
    refine d_get2 ⟨D, hs⟩ fun _ => ?_
    have hcur : ∀ tk1, ∃ tk, (look s kvs).getD (.int (-1) tk1) = .int (((ss.take i).count s : Nat) - 1 : Int) tk := by
      intro tk1
      have := hc s
      unfold look
      cases hv : valueAt kvs s with
      | none =>
        rw [hv] at this
        split at this
        · rename_i h0; rw [h0]; exact ⟨_, rfl⟩
        · cases this
      | some u =>
        rw [hv] at this
        split at this
        · cases this
        · rename_i h0
          have this := Option.some.inj this
          exact er_int this
    obtain ⟨tk2, hcur⟩ := hcur _
    rw [hcur]
    repeat walk_at "s"
    refine d_setN [p, (f, lob fxs k)] F io (k := s) (by simp [sK, PySem.strKind, Value.isStrOf]) (by omega) fun h₄ t₄ o₄ F io => ?_
    have hc' : ∀ tk s', (valueAt (stored kvs s (Value.int ((((ss.take i).count s : Nat) : Int) - 1 + 1) tk)) s').map er = if (ss.take (i+1)).count s' = 0 then none else some (.int ((ss.take (i+1)).count s' - 1) 0) := fun tk s' => by
      rw [valueAt_stored, take_succ_count hss]
      by_cases e : s' = s
      · subst e; simp [er]
      · simp only [if_neg e]; simpa using hc s'
    refine wpAny_execs_cons (wpAny_Expr_any ?_)
    refine call_meth_b PySem.F.plainAttrs_list PySem.F.slot_list_append PySem.F.type_list_append ?_
    repeat walk_at "s"
    refine ⟨⟨f, _, rfl, (F.led _ (.tail _ (.head _))).1, rfl, rfl⟩, ?_⟩
    repeat walk_at "s"
    have D₄ := Heap.dictOf_iff.mpr ⟨o₄, (F.led _ (.tail _ (.tail _ (.head _)))).1, io⟩
    refine d_item (knd := sK w) (k := s) D₄ (by simp [sK, PySem.strKind, Value.isStrOf]) (by rw [valueAt_stored, if_pos rfl]) (fun _ => ?_) (by with_unfolding_all rfl)
    repeat walk_at "s"
    have fin : ∀ (y : Value), er y = eS (hAt ss i) → ∀ t₅, wpAny (model PR w) (A.deeper (callEnvC (f173 w).1 L 173)) (call (.builtin "list.append") [.ref f, y]) (fun _ s' => ∃ μ'' m'' g'' h'' t'', s' = ⟨h'', gs, dr, t'', os⟩ ∧ Fn w NoW g h (callEnvC (f173 w).1 L 173) (p :: μ'') m'' g'' h'' ∧ Sub g' g'' ∧ ∃ fxs k o kvs, μ'' = [(f, lob fxs k), (d, o)] ∧ o.IsDictOf (sK w) kvs ∧ kvs.length ≤ i + 1 ∧ fxs.length = i + 1 ∧ fxs.map er = ((List.range (i+1)).map (hAt ss)).map eS ∧
      (∀ s, (valueAt kvs s).map er = if (ss.take (i+1)).count s = 0 then none else some (.int ((ss.take (i+1)).count s - 1) 0)) ∧ m'' "seen" = some (.ref d) ∧ m'' "found" = some (.ref f)) (ForErr PR w (A.deeper (callEnvC (f173 w).1 L 173)) E' (callEnvC (f173 w).1 L 173)) ⟨h₄, gs, dr, t₅, os⟩ := by
      intro y hy t₅
      refine l_appN [p] F (by omega) fun h₅ k₅ F => ?_
      refine ⟨_, _, _, h₅, _, rfl, F, Sub.refl, _, k₅, o₄, _, rfl, io, Nat.le_trans (stored_length_le _ _ _) (Nat.succ_le_succ hk), by simp [lf], ?_, hc' _, by walk_at "m", by walk_at "m"⟩
      rw [List.map_append, ef, List.range_succ]
      simp [hy]
    have hi1 : ((((ss.take i).count s : Nat) : Int) - 1 + 1) = ((ss.take i).count s : Nat) := by omega
    rw [hi1]
    refine ite_s (fun hb => ?_) fun hb => ?_
    · have h0 : (ss.take i).count s = 0 := by simpa using hb
      repeat walk_at "s"
      refine wpAny_mono (fin _ ?_ _) (fun _ _ q => wpAny_execs_nil q) fun _ _ z => z
      unfold hAt headOf
      rw [hget, if_pos h0]; rfl
    · have h0 : ¬ (ss.take i).count s = 0 := by simpa using hb
      repeat walk_at "s"
      refine o_sadd (by show s.length + 1 ≤ 1000; omega) fun _ _ => ?_
      repeat walk_at "s"
      refine d_item (knd := sK w) (k := s) D₄ (by simp [sK, PySem.strKind, Value.isStrOf]) (by rw [valueAt_stored, if_pos rfl]) (fun _ => ?_) (by with_unfolding_all rfl)
      repeat walk_at "s"
      rw [hi1]
      refine o_str (by omega) (by omega) fun _ _ => ?_
      have hsl := strN_len (c := (ss.take i).count s) (by omega)
      refine o_sadd (by
        have : (s ++ ("." : Str)).length = s.length + 1 := by show (s.cps ++ _).size = _; simp [Str.length]; rfl
        rw [this]; unfold strN at hsl; omega) fun _ _ => ?_
      repeat walk_at "s"
      refine wpAny_mono (fin _ ?_ _) (fun _ _ q => wpAny_execs_nil q) fun _ _ z => z
      unfold hAt headOf
      rw [hget, if_neg h0, ← str_assoc]; rfl
  · obtain ⟨fxs, k, o, kvs, rfl, io, hk, lf, ef, hc, hm1, hm2⟩ := inv
    obtain ⟨F, hd, le₆⟩ := F.freeze
    refine wpAny_execs_cons (wpAny_Return_some ?_)
    repeat walk_at "s"
    refine q f _ _ _ fxs F.gr ⟨k, hd⟩ ?_
    rw [ef, len]; rfl
end
end
section
set_option maxRecDepth 100000
set_option maxHeartbeats 4000000
open PySem PySem.W PySem.Calls PyProof.Rows
open PySem.SeqAt (EqAt RcAt)
section
variable {w : World} {A : Around} {E : Value → Shared → Prop} {env : Env} {g h g₀ h₀ : Heap} {gs : Array GenState} {dr : Drawn} {t : Nat} {os : OsState} {m : Str → Option Value} {n : Nat} {wr : Addr → Prop} {μ : List (Addr × Obj)}

theorem c_factor_levels {v : Value} {cs : List (Option Int)} {lev : List Str} {Q : Value → Shared → Prop} (R : Room A (n+3)) (sub : Sub g h) (W : Wd w g) (hf : Fac w g v cs lev) (hn : lev.length ≤ 100)
    (q : ∀ b g' h' t' ys, Grow NoW g h g' h' → Lst g' b ys → ys.map er = lev.map eS → Q (.ref b) ⟨h', gs, dr, t', os⟩) :
    wpAny (model PR w) A (call (.ref 178) [v]) Q E ⟨h, gs, dr, t, os⟩ := by
  obtain ⟨ys, lv, cv, ls, cls, ⟨a, attrs, hv, hl, ha⟩, eys, ⟨al, atl, hvl, hll, hal⟩, els, vcv, ecl⟩ := hf
  have len := len_map els
  refine call_v (wr := NoW) sub W R.room (f178 w).2 rfl (by kernel_rfl) rfl rfl rfl (.of_eq rfl) rfl (noWr _) fun L h₁ t₁ E' _ F => ?_
  have R' := R.deeper (callEnvC (f178 w).1 L 178)
  repeat walk_at "s"
  refine vec_kind F.Wh (hv.up (by walk_at "up")) fun _ _ => ?_
  repeat walk_at "s"
  refine ite_f (by decide) ?_
  refine ite_f rfl ?_
  refine wpAny_execs_nil ?_
  repeat walk_at "s"
  refine c_get_attr (r := lv) R' F.sub F.W hv ha rfl fun h₂ t₂ G => ?_
  have F := F.step0 G
  repeat walk_at "s"
  rename Fn _ _ _ _ _ _ _ _ _ => F
  refine ite_t ?_ ?_
  · obtain ⟨x, dx, es, nn, tk, rfl, _⟩ := hvl; rfl
  repeat walk_at "s"
  refine vec_kind F.Wh (hvl.up (by walk_at "up")) fun _ _ => ?_
  repeat walk_at "s"
  refine ite_t (by decide) ?_
  repeat walk_at "s"
  refine ite_t rfl ?_
  repeat walk_at "s"
  refine vec_items F.Wh (hvl.up (by walk_at "up")) fun _ => ?_
  repeat walk_at "s"
  refine c_list F.sub (hll.up (by walk_at "up")) (by omega) fun b g₃ h₃ hb G lb => ?_
  have F := F.step0 G
  exact q b _ _ _ ls F.gr lb els

/-- a column with names -/
theorem c_names_of {v nv : Value} {a an : Addr} {attrs atn : Value} {kindn : Str} {ns : List Value} {Q : Value → Shared → Prop} (R : Room A (n+3)) (sub : Sub g h) (W : Wd w g) (hv : VecAt g v "integer" a attrs) (ha : Att w g attrs (some [("names", nv)])) (hvn : VecAt g nv kindn an atn) (hln : Lst g an ns) (hn : ns.length ≤ 100)
    (q : ∀ b g' h' t', Grow NoW g h g' h' → Lst g' b ns → Q (.ref b) ⟨h', gs, dr, t', os⟩) :
    wpAny (model PR w) A (call (.ref 33) [v]) Q E ⟨h, gs, dr, t, os⟩ := by
  refine call_v (wr := NoW) sub W R.room (f33 w).2 rfl (by kernel_rfl) rfl rfl rfl (.of_eq rfl) rfl (noWr _) fun L h₁ t₁ E' _ F => ?_
  have R' := R.deeper (callEnvC (f33 w).1 L 33)
  repeat walk_at "s"
  refine vec_kind F.Wh (hv.up (by walk_at "up")) fun _ _ => ?_
  repeat walk_at "s"
  refine ite_f (by decide) ?_
  refine wpAny_execs_nil ?_
  repeat walk_at "s"
  refine vec_kind F.Wh (hv.up (by walk_at "up")) fun _ _ => ?_
  repeat walk_at "s"
  refine ite_f (by decide) ?_
  refine wpAny_execs_nil ?_
  repeat walk_at "s"
  refine c_dim_of R' F.sub F.W hv ha rfl fun h₂ t₂ G => ?_
  have F := F.step0 G
  repeat walk_at "s"
  rename Fn _ _ _ _ _ _ _ _ _ => F
  refine ite_f rfl ?_
  refine ite_f rfl ?_
  refine wpAny_execs_nil ?_
  repeat walk_at "s"
  refine c_get_attr (r := nv) R' F.sub F.W (hv.up (by walk_at "up")) (ha.up (by walk_at "up")) rfl fun h₃ t₃ G => ?_
  have F := F.step0 G
  repeat walk_at "s"
  rename Fn _ _ _ _ _ _ _ _ _ => F
  refine ite_f ?_ ?_
  · obtain ⟨x, dx, es, nn, tk, rfl, _⟩ := hvn; rfl
  refine wpAny_execs_nil ?_
  repeat walk_at "s"
  refine vec_items F.Wh (hvn.up (by walk_at "up")) fun _ => ?_
  repeat walk_at "s"
  refine c_list F.sub (hln.up (by walk_at "up")) (by omega) fun b g₃ h₃ hb G lb => ?_
  have F := F.step0 G
  exact q b _ _ _ F.gr lb
end
end
section
set_option maxRecDepth 100000
set_option maxHeartbeats 4000000
open PySem PySem.W PySem.Calls PyProof.Rows
open PySem.SeqAt (EqAt RcAt)
theorem putL_has {es : List DictEntry} {name : Str} {u : Value} (k : StrK es) (h : getL name es = some (some u)) (hs : Int) (tk : Tok) (v : Value) : (putL name hs (.str name tk) v es).length = es.length := by
  rw [getL_of k] at h
  replace h := Option.some.inj h
  clear k
  induction es with
  | nil => cases h
  | cons a r ih =>
    unfold putL
    split
    · rfl
    · rename_i ha
      rw [List.find?_cons] at h
      have ha : a.key.isStr name = false := by simpa using ha
      rw [ha] at h
      rw [List.length_cons, List.length_cons, ih h]
section
variable {w : World} {A : Around} {E : Value → Shared → Prop} {env : Env} {g h g₀ h₀ : Heap} {gs : Array GenState} {dr : Drawn} {t : Nat} {os : OsState} {m : Str → Option Value} {n : Nat} {wr : Addr → Prop} {μ : List (Addr × Obj)}

theorem t_notIn {a : Addr} {xs : List Value} {x : Value} {Q : Value → Shared → Prop} (hl : h.IsTuple a xs.toArray) (hf : ∀ y ∈ xs, flat y = true) (hx : flat x = true) (q : Q (.bool (!xs.any fun y => er y == er x)) ⟨h, gs, dr, t, os⟩) : wpAny (model PR w) A (compareOp .NotIn x (.ref a)) Q E ⟨h, gs, dr, t, os⟩ :=
  PySem.SeqAt.notIn_tupleAt (s := ⟨h, gs, dr, t, os⟩) (fun y => er y == er x) hl (fun y hy => eqAt_flat (hf y (by simpa using hy)) hx) (by simpa using q)

/-- what taken_rows makes of an attribute -/
def Took (w : World) (g : Heap) (ns : List Value) (ps : List Nat) (p p' : Str × Value) : Prop :=
  p'.1 = p.1 ∧ ((p.1 ≠ "names" ∧ p'.2 = p.2) ∨ (p.1 = "names" ∧ ∃ ys, Vec w g p'.2 "character" ys none ∧ ys.map er = ps.map fun p => er (ns.getD p .none)))
theorem Took.up {w : World} {ns : List Value} {ps : List Nat} {p p' : Str × Value} (x : Took w g ns ps p p') (s : Sub g h) : Took w h ns ps p p' :=
  ⟨x.1, x.2.imp id fun ⟨a, ys, b, c⟩ => ⟨a, ys, b.up s, c⟩⟩

theorem stored_app {kvs : List (Str × Value)} {k : Str} {v : Value} (hk : k ∉ kvs.map (·.1)) : stored kvs k v = kvs ++ [(k, v)] := by
  unfold stored
  rw [if_neg]
  intro q
  obtain ⟨p, hp, e⟩ := List.any_eq_true.mp q
  exact hk (List.mem_map.mpr ⟨p, hp, by simpa using e⟩)
theorem paired_keys {w : World} {ns : List Value} {ps : List Nat} : ∀ {l l' : List (Str × Value)}, Paired (Took w g ns ps) l l' → l'.map (·.1) = l.map (·.1)
  | _, _, .nil => rfl
  | _, _, .cons a b => by rw [List.map_cons, List.map_cons, paired_keys b, a.1]
theorem valueAt_of {l : List (Str × Value)} {i : Nat} {k : Str} {u : Value} (hn : (l.map (·.1)).Nodup) (h : l[i]? = some (k, u)) : valueAt l k = some u := by
  unfold valueAt
  cases hf : l.find? (fun kv => decide (kv.1 = k)) with
  | none => exact absurd (List.find?_eq_none.mp hf _ (List.mem_of_getElem? h)) (by simp)
  | some p =>
    have hp : p.1 = k := by simpa using List.find?_some hf
    obtain ⟨j, hj⟩ := List.mem_iff_getElem?.mp (List.mem_of_find?_eq_some hf)
    have h1 : (l.map (·.1))[i]? = some k := by rw [List.getElem?_map, h]; rfl
    have h2 : (l.map (·.1))[j]? = some k := by rw [List.getElem?_map, hj, ← hp]; rfl
    have := nodup_inj hn h1 h2
    subst this
    rw [h] at hj; cases hj; rfl
theorem notin_take {l : List (Str × Value)} {i : Nat} {k : Str} {u : Value} (hn : (l.map (·.1)).Nodup) (h : l[i]? = some (k, u)) : k ∉ (l.take i).map (·.1) := fun q => by
  obtain ⟨p, hp, e⟩ := List.mem_map.mp q
  obtain ⟨j, hj⟩ := List.mem_iff_getElem?.mp hp
  rw [List.getElem?_take] at hj
  split at hj
  · rename_i hji
    have h1 : (l.map (·.1))[i]? = some k := by rw [List.getElem?_map, h]; rfl
    have h2 : (l.map (·.1))[j]? = some k := by rw [List.getElem?_map, hj, ← e]; rfl
    exact absurd (nodup_inj hn h1 h2) (Nat.ne_of_gt hji)
  · cases hj
theorem paired_len {α β : Type} {F : α → β → Prop} : ∀ {l : List α} {l' : List β}, Paired F l l' → l'.length = l.length
  | _, _, .nil => rfl
  | _, _, .cons _ b => by rw [List.length_cons, List.length_cons, paired_len b]

theorem c_taken_rows {v : Value} {kind : Str} {a b : Addr} {attrs : Value} {xs rs ns : List Value} {kvs : List (Str × Value)} {ps : List Nat} {Q : Value → Shared → Prop} (R : Room A (n+5)) (sub : Sub g h) (W : Wd w g) (hv : VecAt g v kind a attrs) (hl : Lst g a xs) (ha : Att w g attrs (some kvs))
    (hlr : Lst g b rs) (hr : rs.map er = ps.map eN) (hps : ps.length ≤ 100) (hp : ∀ p ∈ ps, p < xs.length) (hxs : xs.length ≤ 100) (hnd : (kvs.map (·.1)).Nodup) (hkl : kvs.length ≤ 100) (hpos : kvs ≠ [])
    (hdim : ∀ p ∈ kvs, p.1 ≠ "dim" ∧ p.1 ≠ "dimnames") (hnames : ∀ nv, (("names" : Str), nv) ∈ kvs → kind = "integer" ∧ kvs = [(("names" : Str), nv)] ∧ ∃ kindn an atn, VecAt g nv kindn an atn ∧ Lst g an ns ∧ ns.length = xs.length)
    (q : ∀ x g' h' t' ys kvs', h.get? x = none → Grow NoW g h g' h' → Vec w g' (.ref x) kind ys (some kvs') → ys.map er = ps.map (fun p => er (xs.getD p .none)) → Paired (Took w g' ns ps) kvs kvs' → Q (.ref x) ⟨h', gs, dr, t', os⟩) :
    wpAny (model PR w) A (call (.ref 156) [v, .ref b]) Q E ⟨h, gs, dr, t, os⟩ := by
  refine call_v (wr := NoW) sub W R.room (f156 w).2 rfl (by kernel_rfl) rfl rfl rfl (.of_eq rfl) rfl (noWr _) fun L h₁ t₁ E' _ F => ?_
  have R' := R.deeper (callEnvC (f156 w).1 L 156)
  have len := len_map hr
  have hd : ((some kvs).bind (look "dim")).getD .none = .none := by
    show (valueAt kvs "dim").getD .none = .none
    have : valueAt kvs "dim" = none := by
      unfold valueAt
      rw [List.find?_eq_none.mpr]; rfl
      intro p hp e
      exact (hdim p hp).1 (by simpa using e)
    rw [this]; rfl
  repeat walk_at "s"
  refine c_dim_of R' F.sub F.W hv ha hd fun h₂ t₂ G => ?_
  have F := F.step0 G
  repeat walk_at "s"
  rename Fn _ _ _ _ _ _ _ _ _ => F
  refine ite_f rfl ?_
  refine ite_f rfl ?_
  refine wpAny_execs_nil ?_
  repeat walk_at "s"
  refine vec_kind F.Wh (hv.up (by walk_at "up")) fun _ _ => ?_
  repeat walk_at "s"
  refine comp_expr rfl ?_
  repeat walk_at "s"
  refine comp_gen rfl (fun _ => rfl) rfl F (src_list R'.hd F.sub (hlr.up (by walk_at "up"))) (by omega) ps len.symm (fun _ => true) (fun p => er (xs.getD p .none)) (fun i p C g₁ h₁ t₁ u E' hap hP X G => ?_) fun D g₃ h₃ t₃ ys hD F le lD eD => ?_
  · obtain ⟨p', hp', e⟩ := map_at hr hP
    rw [hap] at hp'; cases hp'
    obtain ⟨tk, rfl⟩ := er_int e
    refine tests_nil ⟨rfl, _, _, _, rfl, Grow.refl X.sub, fun _ => ?_⟩
    repeat walk_at "s"
    refine vec_items X.Wh (hv.up (by walk_at "up")) fun _ => ?_
    repeat walk_at "s"
    have hlt := hp p (List.mem_of_getElem? hap)
    refine l_item (v := xs[p]) (hl.up (by walk_at "up")) rfl (by simp [hlt]) (by omega) ?_ (by with_unfolding_all rfl)
    exact ⟨by simp [hlt], _, _, _, rfl, Grow.refl X.sub⟩
  rw [List.filter_eq_self.mpr (fun _ _ => rfl)] at eD
  repeat walk_at "s"
  refine c_make R' F.sub F.W (.inl ⟨rfl, rfl⟩) fun x dx g₄ h₄ t₄ es nn hx hdx G I gx gd e1 e2 e3 e4 => ?_
  have hx0 := F.gr.dom _ hx
  have F := F.adopt G hdx gd I.di
  have le₄ := G.le
  have Iks := I.ks
  have lD₄ := lD.up le₄
  repeat walk_at "s"
  rename Fn _ _ _ _ _ _ _ _ _ => F
  refine vec_attrs F.Wh (hv.up (by walk_at "up")) fun _ => ?_
  repeat walk_at "s"
  have ha0 := ha
  obtain ⟨da, rfl, Da⟩ := ha0
  refine ite_t rfl ?_
  repeat walk_at "s"
  refine d_new (knd := sK w) F fun d h₅ o F hs io => ?_
  repeat walk_at "s"
  rename Fn _ _ _ _ _ _ _ _ _ => F
  refine for_stmt ?_
  repeat walk_at "s"
  refine vec_attrs F.Wh (hv.up (by walk_at "up")) fun _ => ?_
  refine for_k rfl F (src_dict R'.hd F.sub (Da.up (by walk_at "up"))) (fun i μ m g' => ∃ o kvs', μ = [(d, o), (dx, dictOf es nn)] ∧ o.IsDictOf (sK w) kvs' ∧ Paired (Took w g' ns ps) (kvs.take i) kvs' ∧ m "kept" = some (.ref d) ∧ m "v" = some v ∧ m "rows" = some (.ref b) ∧ m "result" = some (.ref x))
    ⟨o, [], rfl, io, .nil, rfl, rfl, rfl, rfl⟩
    (fun i p μ' m' g' h' t' u hi hu inv F le => ?_) (fun μ' m' g' h' t' F le inv => ?_)
  · obtain ⟨o, kvs', rfl, io, hP, hm1, hm2, hm3, hm4⟩ := inv
    obtain ⟨k, uv, hki, hku⟩ := hu
    obtain ⟨tku, rfl⟩ := Value.isStrOf_shape (x := k) hku
    have hknot : k ∉ kvs'.map (·.1) := by rw [paired_keys hP]; exact notin_take hnd hki
    have lP := paired_len hP
    have hlk : kvs'.length ≤ 100 := by rw [lP, List.length_take]; omega
    repeat walk_at "s"
    refine ite_s (fun hb => ?_) fun hb => ?_
    · have hk : k = "names" := by simpa using hb
      subst hk
      obtain ⟨rfl, rfl, kindn, an, atn, hvn, hln, lenn⟩ := hnames uv (List.mem_of_getElem? hki)
      refine wpAny_execs_cons (wpAny_Assign_Subscript ?_)
      repeat walk_at "s"
      refine comp_expr rfl ?_
      repeat walk_at "s"
      refine comp_gen rfl (fun _ => rfl) rfl F (src_list R'.hd F.sub (hlr.up (by walk_at "up"))) (by omega) ps len.symm (fun _ => true) (fun p => er (ns.getD p .none)) (fun i p C g₁ h₁ t₁ u E' hap hP X G => ?_) fun D g₃ h₃ t₃ zs hD F leD lZ eZ => ?_
      · obtain ⟨p', hp', e⟩ := map_at hr hP
        rw [hap] at hp'; cases hp'
        obtain ⟨tk, rfl⟩ := er_int e
        refine tests_nil ⟨rfl, _, _, _, rfl, Grow.refl X.sub, fun _ => ?_⟩
        repeat walk_at "s"
        refine c_names_of R' X.sub X.W (hv.up (by walk_at "up")) (ha.up (by walk_at "up")) (hvn.up (by walk_at "up")) (hln.up (by walk_at "up")) (by omega) fun b' g' h' t' G' lb => ?_
        have X := X.step0 G'
        repeat walk_at "s"
        have hlt := hp p (List.mem_of_getElem? hap)
        refine l_item (v := ns[p]'(by omega)) (lb.up (by walk_at "up")) rfl (by simp [show p < ns.length by omega]) (by omega) ?_ (by with_unfolding_all rfl)
        exact ⟨by simp [show p < ns.length by omega], _, _, _, rfl, G'⟩
      rw [List.filter_eq_self.mpr (fun _ _ => rfl)] at eZ
      repeat walk_at "s"
      refine c_character R' F.sub F.W lZ (by rw [len_map eZ]; omega) fun x₁ g₈ h₈ t₈ hx₁ G V₁ => ?_
      have F := F.step0 G
      have le₈ := G.le
      repeat walk_at "s"
      refine d_setN [p] F io (k := ("names" : Str)) (by simp [sK, PySem.strKind, Value.isStrOf]) (by omega) fun h₉ t₉ o₉ F io => ?_
      refine wpAny_execs_nil (wpAny_execs_nil ?_)
      refine ⟨_, _, _, _, _, rfl, F, by walk_at "up", o₉, _, rfl, io, ?_, by walk_at "m", by walk_at "m", by walk_at "m", by walk_at "m"⟩
      rw [stored_app hknot, List.take_add_one, hki]
      exact Paired.snoc (Paired.map hP fun _ _ q => q.up (leD.trans le₈)) ⟨rfl, .inr ⟨rfl, zs, V₁, eZ⟩⟩
    · have hkn : k ≠ "names" := by simpa using hb
      repeat walk_at "s"
      refine t_display ?_
      repeat walk_at "s"
      refine ⟨by simp, _, _, _, rfl, F.sub, fun a₉ g₉ h₉ ha₉ G l₉ => ?_⟩
      have F := F.step0 G
      have le₉ := G.le
      have l₉' : h₉.IsTuple a₉ _ := let ⟨o, a, z⟩ := l₉; ⟨o, F.sub _ _ a, z⟩
      refine t_notIn l₉' (fun y hy => by simp at hy; rcases hy with rfl | rfl <;> rfl) rfl ?_
      have hk2 := hdim _ (List.mem_of_getElem? hki)
      refine wpAny_truthy_bool ?_
      refine ite_t ?_ ?_
      · have e1 : ¬ (Str.ofString "dim" = k) := fun e => hk2.1 e.symm
        have e2 : ¬ (Str.ofString "dimnames" = k) := fun e => hk2.2 e.symm
        simp [er, e1, e2]
      refine wpAny_execs_cons (wpAny_Assign_Subscript ?_)
      repeat walk_at "s"
      refine vec_attrs F.Wh (hv.up (by walk_at "up")) fun _ => ?_
      repeat walk_at "s"
      have hval : valueAt kvs k = some uv := valueAt_of hnd hki
      refine d_item (knd := sK w) (k := k) (Da.up (by walk_at "up")).1 (by simp [sK, PySem.strKind, Value.isStrOf]) hval (fun _ => ?_) (by with_unfolding_all rfl)
      repeat walk_at "s"
      refine d_setN [p] F io (k := k) (by simp [sK, PySem.strKind, Value.isStrOf]) (by omega) fun h₉ t₉ o₉ F io => ?_
      refine wpAny_execs_nil (wpAny_execs_nil (wpAny_execs_nil ?_))
      refine ⟨_, _, _, _, _, rfl, F, by walk_at "up", o₉, _, rfl, io, ?_, by walk_at "m", by walk_at "m", by walk_at "m", by walk_at "m"⟩
      rw [stored_app hknot, List.take_add_one, hki]
      exact Paired.snoc (Paired.map hP fun _ _ q => q.up le₉) ⟨rfl, .inl ⟨hkn, rfl⟩⟩
  · obtain ⟨o, kvs', rfl, io, hP, hm1, hm2, hm3, hm4⟩ := inv
    rw [List.take_length] at hP
    have lP := paired_len hP
    obtain ⟨F, hdo, le₆⟩ := F.freeze
    have Dd : Dct (sK w) (plus g' h' fun b => b = d) d kvs' := ⟨Heap.dictOf_iff.mpr ⟨o, hdo, io⟩, hs⟩
    repeat walk_at "s"
    refine d_len (Dd.up F.sub) (by omega) fun _ _ => ?_
    repeat walk_at "s"
    refine ite_t ?_ ?_
    · have : kvs.length ≠ 0 := fun e => hpos (List.eq_nil_of_length_eq_zero e)
      simp; omega
    repeat walk_at "s"
    have sx : ∀ {hh : Heap}, Sub g₄ hh → hh.get? x = some (instObj 102 dx) := fun s => s _ _ gx
    refine set_ins F.Wh.K ⟨sx (by walk_at "up"), (F.led _ (.head _)).1, Iks⟩ (by kernel_rfl) (by kernel_rfl) (by kernel_rfl) (by kernel_rfl) (by omega) fun h₆ t₆ k₆ s₆ I₆ => ?_
    have l6 := putL_has Iks e3 (PyData.keyHash w.params "attrs") k₆ (.ref d)
    have F := F.mut1 s₆.extBut I₆.di
    obtain ⟨F, hdx₂, le₇⟩ := F.freeze
    refine wpAny_execs_nil (wpAny_execs_nil ?_)
    repeat walk_at "s"
    refine q x _ _ _ ys kvs' hx0 F.gr ⟨D, .ref d, ⟨x, dx, _, _, _, rfl, ⟨sx (by walk_at "up"), hdx₂, I₆.ks⟩, (getL_put Iks _ _ _ _ _).trans ((if_neg (by decide)).trans e1), (getL_put Iks _ _ _ _ _).trans ((if_neg (by decide)).trans e2), (getL_put Iks _ _ _ _ _).trans (if_pos rfl), rfl, by omega⟩, lD₄.up (by walk_at "up"), d, rfl, Dd.up (by walk_at "up")⟩ eD (Paired.map hP fun _ _ q => q.up (by walk_at "up"))
end
end
section
set_option maxRecDepth 100000
set_option maxHeartbeats 4000000
open PySem PySem.W PySem.Calls PyProof.Rows
open PySem.SeqAt (EqAt RcAt)
def told (cs : List (Option Int)) (lev : List Str) : List (Option Str) := cs.map fun o => o.map fun i => lev.getD (i - 1).toNat ""
def OkCs (cs : List (Option Int)) (lev : List Str) : Prop := ∀ i, some i ∈ cs → 1 ≤ i ∧ i ≤ (lev.length : Int)
def usedAt (cs : List (Option Int)) (j : Nat) : Bool := cs.contains (some ((j : Int) + 1))
def usedUp (cs : List (Option Int)) (n : Nat) : List Nat := (List.range n).filter (usedAt cs)
def usedLev (cs : List (Option Int)) (lev : List Str) : List Str := (usedUp cs lev.length).map fun j => lev.getD j ""
def posOf (cs : List (Option Int)) (lev : List Str) (i : Int) : Int := (((usedUp cs lev.length).idxOf (i - 1).toNat : Nat) : Int) + 1
theorem usedUp_succ {cs : List (Option Int)} {n : Nat} : usedUp cs (n+1) = usedUp cs n ++ (if usedAt cs n = true then [n] else []) := by
  unfold usedUp
  rw [List.range_succ, List.filter_append]; congr 1; by_cases h : usedAt cs n = true <;> simp [h]
theorem usedUp_len {cs : List (Option Int)} {n : Nat} : (usedUp cs n).length ≤ n := by
  have := List.length_filter_le (usedAt cs) (List.range n)
  rw [List.length_range] at this; exact this
theorem usedUp_nodup {cs : List (Option Int)} {n : Nat} : (usedUp cs n).Nodup := List.Nodup.sublist (List.filter_sublist) List.nodup_range
theorem mem_used {cs : List (Option Int)} {lev : List Str} (ok : OkCs cs lev) {i : Int} (h : some i ∈ cs) : (i - 1).toNat ∈ usedUp cs lev.length := by
  obtain ⟨h1, h2⟩ := ok i h
  unfold usedUp
  rw [List.mem_filter, List.mem_range]
  refine ⟨by omega, ?_⟩
  unfold usedAt
  rw [List.contains_iff_mem]
  have : (((i - 1).toNat : Nat) : Int) + 1 = i := by omega
  rw [this]; exact h
theorem told_used {cs : List (Option Int)} {lev : List Str} (ok : OkCs cs lev) : told (cs.map fun o => o.map (posOf cs lev)) (usedLev cs lev) = told cs lev := by
  unfold told
  rw [List.map_map]
  apply List.map_congr_left
  intro o ho
  cases o with
  | none => rfl
  | some i =>
    have hm := mem_used ok ho
    have hlt := List.idxOf_lt_length_iff.mpr hm
    show some ((usedLev cs lev).getD (posOf cs lev i - 1).toNat "") = some (lev.getD (i - 1).toNat "")
    congr 1
    have : (posOf cs lev i - 1).toNat = (usedUp cs lev.length).idxOf (i - 1).toNat := by unfold posOf; omega
    rw [this]
    unfold usedLev
    rw [List.getD_eq_getElem?_getD, List.getElem?_map, List.getElem?_eq_getElem hlt]
    simp
theorem okCs_used {cs : List (Option Int)} {lev : List Str} (ok : OkCs cs lev) : OkCs (cs.map fun o => o.map (posOf cs lev)) (usedLev cs lev) := by
  intro i hi
  obtain ⟨o, ho, e⟩ := List.mem_map.mp hi
  cases o with
  | none => cases e
  | some k =>
    have e : posOf cs lev k = i := Option.some.inj e
    have hlt := List.idxOf_lt_length_iff.mpr (mem_used ok ho)
    rw [← e]
    unfold posOf usedLev
    rw [List.length_map]
    omega
theorem used_all {cs : List (Option Int)} {lev : List Str} (h : (usedUp cs lev.length).length = lev.length) : usedLev cs lev = lev := by
  have hf : usedUp cs lev.length = List.range lev.length := List.filter_sublist.eq_of_length (by rw [List.length_range]; exact h)
  unfold usedLev
  rw [hf]
  apply List.ext_getElem?
  intro j
  rw [List.getElem?_map]
  by_cases hj : j < lev.length
  · rw [List.getElem?_range hj]; simp [hj]
  · rw [List.getElem?_eq_none (by simpa using hj), List.getElem?_eq_none (by omega)]; rfl
theorem eO_beq {a : Option Int} {b : Int} : (eO a == Value.int b 0) = (a == some b) := by
  cases a <;> rw [Bool.eq_iff_iff] <;> simp [eO]
theorem any_eO {xs : List Value} {ns : List (Option Int)} {i : Int} (e : xs.map er = ns.map eO) : (xs.any fun y => er y == Value.int i 0) = ns.contains (some i) := by
  rw [any_er e]
  have : (fun t => eO t == Value.int i 0) = fun t => t == some i := by funext t; exact eO_beq
  rw [this]; exact List.any_beq'

section
variable {w : World} {A : Around} {E : Value → Shared → Prop} {env : Env} {g h g₀ h₀ : Heap} {gs : Array GenState} {dr : Drawn} {t : Nat} {os : OsState} {m : Str → Option Value} {n : Nat} {wr : Addr → Prop} {μ : List (Addr × Obj)}

theorem c_used_levels {v : Value} {cs : List (Option Int)} {lev : List Str} {Q : Value → Shared → Prop} (R : Room A (n+5)) (sub : Sub g h) (W : Wd w g) (hf : Fac w g v cs lev) (hok : OkCs cs lev) (hn : lev.length ≤ 100) (hcn : cs.length ≤ 100)
    (q : ∀ x g' h' t' cs', Grow NoW g h g' h' → Fac w g' x cs' (usedLev cs lev) → OkCs cs' (usedLev cs lev) → told cs' (usedLev cs lev) = told cs lev → Q x ⟨h', gs, dr, t', os⟩) :
    wpAny (model PR w) A (call (.ref 183) [v]) Q E ⟨h, gs, dr, t, os⟩ := by
  have hf0 := hf
  obtain ⟨ys, lv, cv, ls, cls, ⟨a, attrs, hv, hl, ha⟩, eys, ⟨al, atl, hvl, hll, hal⟩, els, vcv, ecl⟩ := hf
  have len := len_map els
  have lenc := len_map eys
  refine call_v (wr := NoW) sub W R.room (f183 w).2 rfl (by kernel_rfl) rfl rfl rfl (.of_eq rfl) rfl (noWr _) fun L h₁ t₁ E' _ F => ?_
  have R' := R.deeper (callEnvC (f183 w).1 L 183)
  repeat walk_at "s"
  refine c_get_attr (r := lv) R' F.sub F.W hv ha rfl fun h₂ t₂ G => ?_
  have F := F.step0 G
  repeat walk_at "s"
  rename Fn _ _ _ _ _ _ _ _ _ => F
  refine ite_f ?_ ?_
  · obtain ⟨x, dx, es, nn, tk, rfl, _⟩ := hvl; rfl
  repeat walk_at "s"
  refine vec_kind F.Wh (hv.up (by walk_at "up")) fun _ _ => ?_
  repeat walk_at "s"
  refine ite_f (by decide) ?_
  repeat walk_at "s"
  refine ite_f rfl ?_
  refine wpAny_execs_nil ?_
  repeat walk_at "s"
  refine l_new F fun f h₃ F => ?_
  repeat walk_at "s"
  rename Fn _ _ _ _ _ _ _ _ _ => F
  refine d_new (knd := iK w) F fun d h₄ o F hs io => ?_
  repeat walk_at "s"
  rename Fn _ _ _ _ _ _ _ _ _ => F
  refine for_stmt ?_
  repeat walk_at "s"
  refine vec_items F.Wh (hvl.up (by walk_at "up")) fun _ => ?_
  repeat walk_at "s"
  refine l_len (hll.up (by walk_at "up")) (by omega) fun _ _ => ?_
  repeat walk_at "s"
  refine r_range F.sub fun r g₅ h₅ t₅ x y z hr G hrr => ?_
  have le₅ := G.le
  have F := F.step0 G
  refine for_k rfl F (src_range R'.hd (by omega) hrr) (fun i μ m g => ∃ fxs k o kvs, μ = [(d, o), (f, lob fxs k)] ∧ o.IsDictOf (iK w) kvs ∧ kvs.length ≤ i ∧ fxs.map er = ((usedUp cs i).map fun j => lev.getD j "").map eS ∧
      (∀ (k : Nat) (j : Nat), (usedUp cs i)[k]? = some j → ∃ tk, valueAt kvs ((j : Int) + 1) = some (.int ((k : Int) + 1) tk)) ∧ m "codes" = some (.ref d) ∧ m "kept" = some (.ref f) ∧ m "v" = some v ∧ m "levels" = some lv)
    ⟨[], 0, o, [], rfl, io, Nat.le_refl _, rfl, (fun _ _ h => by cases h), rfl, rfl, rfl, rfl⟩
    (fun i p μ' m' g' h' t' u hi hu inv F le => ?_) (fun μ' m' g' h' t' F le inv => ?_)
  · obtain ⟨fxs, k, o, kvs, rfl, io, hk, ef, hc, hm1, hm2, hm3, hm4⟩ := inv
    obtain ⟨tu, rfl⟩ := hu
    have lf := len_map ef
    rw [List.length_map] at lf
    have lu := usedUp_len (cs := cs) (n := i)
    repeat walk_at "s"
    refine vec_items F.Wh (hv.up (by walk_at "up")) fun _ => ?_
    repeat walk_at "s"
    refine l_in (hl.up (by walk_at "up")) (flats (f := eO) (fun _ _ => flat_eO) eys) rfl ?_
    rw [show er (Value.int ((i : Int) + 1) _) = Value.int ((i : Int) + 1) 0 from rfl, any_eO eys]
    repeat walk_at "s"
    refine ite_s (fun hb => ?_) fun hb => ?_
    · have hu1 : usedUp cs (i+1) = usedUp cs i ++ [i] := by rw [usedUp_succ, if_pos (show usedAt cs i = true from hb)]
      repeat walk_at "s"
      refine call_meth_b PySem.F.plainAttrs_list PySem.F.slot_list_append PySem.F.type_list_append ?_
      repeat walk_at "s"
      refine ⟨⟨f, _, rfl, (F.led _ (.tail _ (.tail _ (.head _)))).1, rfl, rfl⟩, ?_⟩
      repeat walk_at "s"
      refine vec_items F.Wh (hvl.up (by walk_at "up")) fun _ => ?_
      repeat walk_at "s"
      obtain ⟨sv, hsv⟩ : ∃ s, lev[i]? = some s := ⟨lev[i]'(by omega), by simp [show i < lev.length by omega]⟩
      obtain ⟨lvv, hlv, elv⟩ := at_map els hsv
      refine l_item (hll.up (by walk_at "up")) rfl hlv (by omega) ?_ (by with_unfolding_all rfl)
      repeat walk_at "s"
      refine l_appN [p, (d, o)] F (by omega) fun h₅ k₅ F => ?_
      refine wpAny_execs_cons (wpAny_Assign_Subscript ?_)
      repeat walk_at "s"
      refine l_len ⟨k₅, (F.led _ (.tail _ (.tail _ (.head _)))).1⟩ (by simp; omega) fun _ _ => ?_
      repeat walk_at "s"
      refine d_setN [p] F io (k := ((i : Int) + 1)) (by simp [iK, PySem.intKind, Value.isInt]) (by omega) fun h₉ t₉ o₉ F io => ?_
      refine wpAny_execs_nil (wpAny_execs_nil ?_)
      refine ⟨_, _, _, _, _, rfl, F, Sub.refl, _, k₅, o₉, _, rfl, io, Nat.le_trans (stored_length_le _ _ _) (Nat.succ_le_succ hk), ?_, fun k' j hkj => ?_, by walk_at "m", by walk_at "m", by walk_at "m", by walk_at "m"⟩
      · rw [hu1, List.map_append, ef]
        simp [elv, hsv]
      · rw [valueAt_stored]
        rw [hu1, List.getElem?_append] at hkj
        split at hkj
        · rename_i hk'
          have hji : j < i := by
            have := List.mem_filter.mp (List.mem_of_getElem? hkj)
            simpa using this.1
          rw [if_neg (by omega)]
          exact hc k' j hkj
        · rename_i hk'
          have hk2 : k' = (usedUp cs i).length := by
            have := (List.getElem?_eq_some_iff.mp hkj).1
            simp at this; omega
          subst hk2
          simp at hkj
          subst hkj
          rw [if_pos rfl]
          rw [show (((fxs ++ [lvv]).length : Nat) : Int) = ((usedUp cs i).length : Int) + 1 by simp [lf]]
          exact ⟨_, rfl⟩
    · have hu1 : usedUp cs (i+1) = usedUp cs i := by rw [usedUp_succ, if_neg (by rw [show usedAt cs i = false from hb]; decide), List.append_nil]
      refine wpAny_execs_nil (wpAny_execs_nil ?_)
      refine ⟨_, _, _, _, _, rfl, F, Sub.refl, fxs, k, o, kvs, rfl, io, Nat.le_succ_of_le hk, by rw [hu1]; exact ef, by rw [hu1]; exact hc, by walk_at "m", by walk_at "m", by walk_at "m", by walk_at "m"⟩
  · obtain ⟨fxs, k, o, kvs, rfl, io, hk, ef, hc, hm1, hm2, hm3, hm4⟩ := inv
    have lf := len_map ef
    rw [List.length_map] at lf
    rw [len] at ef hc lf
    have lu := usedUp_len (cs := cs) (n := lev.length)
    obtain ⟨F, hdd, le₆⟩ := F.freeze
    obtain ⟨F, hdf, le₇⟩ := F.freeze
    repeat walk_at "s"
    refine l_len ⟨k, F.sub _ _ hdf⟩ (by omega) fun _ _ => ?_
    repeat walk_at "s"
    refine vec_items F.Wh (hvl.up (by walk_at "up")) fun _ => ?_
    repeat walk_at "s"
    refine l_len (hll.up (by walk_at "up")) (by omega) fun _ _ => ?_
    repeat walk_at "s"
    refine ite_s (fun hb => ?_) fun hb => ?_
    · have hb : (fxs.length : Int) = ls.length := by simpa using hb
      have e := used_all (cs := cs) (lev := lev) (by omega)
      repeat walk_at "s"
      exact q v _ _ _ cs F.gr (by rw [e]; exact hf0.up (by walk_at "up")) (by rw [e]; exact hok) (by rw [e])
    refine wpAny_execs_nil ?_
    repeat walk_at "s"
    refine comp_expr rfl ?_
    repeat walk_at "s"
    refine vec_items F.Wh (hv.up (by walk_at "up")) fun _ => ?_
    refine comp_gen rfl (fun _ => rfl) rfl F (src_list R'.hd F.sub (hl.up (by walk_at "up"))) (by omega) cs lenc.symm (fun _ => true) (fun o => eO (o.map (posOf cs lev))) (fun i o' C g₁ h₁ t₁ u E' hap hP X G => ?_) fun D g₆ h₆ t₆ is hD F leD lD eD => ?_
    · obtain ⟨o'', ho', e⟩ := map_at eys hP
      rw [hap] at ho'; cases ho'
      refine tests_nil ⟨rfl, _, _, _, rfl, Grow.refl X.sub, fun _ => ?_⟩
      repeat walk_at "s"
      cases o' with
      | none =>
        obtain rfl := er_none e
        refine ite_t rfl ?_
        repeat walk_at "s"
        exact ⟨rfl, _, _, _, rfl, Grow.refl X.sub⟩
      | some ic =>
        obtain ⟨tk, rfl⟩ := er_int e
        refine ite_f rfl ?_
        repeat walk_at "s"
        have hmem := mem_used hok (List.mem_of_getElem? hap)
        have hlt := List.idxOf_lt_length_iff.mpr hmem
        obtain ⟨tk', hva⟩ := hc ((usedUp cs lev.length).idxOf (ic - 1).toNat) (ic - 1).toNat (by rw [List.getElem?_eq_getElem hlt]; simp)
        have hic : (((ic - 1).toNat : Nat) : Int) + 1 = ic := by have := (hok ic (List.mem_of_getElem? hap)).1; omega
        rw [hic] at hva
        have s₆ : Sub (plus g' h' fun b => b = d) h₁ := by walk_at "up"
        refine d_item (knd := iK w) (k := ic) (Heap.dictOf_iff.mpr ⟨o, s₆ _ _ hdd, io⟩) (by simp [iK, PySem.intKind, Value.isInt]) hva (fun _ => ?_) (by with_unfolding_all rfl)
        exact ⟨rfl, _, _, _, rfl, Grow.refl X.sub⟩
    rw [List.filter_eq_self.mpr (fun _ _ => rfl)] at eD
    repeat walk_at "s"
    refine c_make R' F.sub F.W (.inl ⟨rfl, rfl⟩) fun x dx g₇ h₇ t₇ es nn hx hdx G I gx gd e1 e2 e3 e4 => ?_
    have hx0 := F.gr.dom _ hx
    have F := F.adopt G hdx gd I.di
    have le₈ := G.le
    have Iks := I.ks
    have lD₄ := lD.up le₈
    have sx : ∀ {hh : Heap}, Sub g₇ hh → hh.get? x = some (instObj 102 dx) := fun s => s _ _ gx
    repeat walk_at "s"
    rename Fn _ _ _ _ _ _ _ _ _ => F
    refine vec_attrs F.Wh (hv.up (by walk_at "up")) fun _ => ?_
    repeat walk_at "s"
    obtain ⟨da, rfl, Da⟩ := ha
    refine c_dict F (Da.up (by walk_at "up")) (by simp) fun b h₈ o₈ F hs₈ io₈ => ?_
    repeat walk_at "s"
    refine set_ins F.Wh.K ⟨sx (by walk_at "up"), (F.led _ (.tail _ (.head _))).1, Iks⟩ (by kernel_rfl) (by kernel_rfl) (by kernel_rfl) (by kernel_rfl) (by omega) fun h₉ t₉ k₉ s₉ I₉ => ?_
    have l9 := putL_has Iks e3 (PyData.keyHash w.params "attrs") k₉ (.ref b)
    have F := F.mutN [(b, o₈)] s₉.extBut I₉.di
    refine wpAny_execs_cons (wpAny_Assign_Subscript ?_)
    repeat walk_at "s"
    refine c_character R' F.sub F.W (xs := fxs) ⟨k, (by walk_at "up" : Sub (plus (plus g' h' fun b => b = d) h' fun b => b = f) _) _ _ hdf⟩ (by omega) fun x₁ g₁₀ h₁₀ t₁₀ hx₁ G V₁ => ?_
    have F := F.step0 G
    repeat walk_at "s"
    have hat : getL "attrs" (putL "attrs" (PyData.keyHash w.params "attrs") (.str "attrs" k₉) (.ref b) es) = some (some (.ref b)) := (getL_put Iks _ _ _ _ _).trans (if_pos rfl)
    refine get_ins F.Wh.K ⟨sx (by walk_at "up"), (F.led _ (.tail _ (.head _))).1, I₉.ks⟩ (by kernel_rfl) (by kernel_rfl) (by kernel_rfl) hat rfl ?_
    repeat walk_at "s"
    refine d_setN [] F io₈ (k := ("levels" : Str)) (by simp [sK, PySem.strKind, Value.isStrOf]) (by simp) fun h₁₁ t₁₁ o₁₁ F io₁₁ => ?_
    obtain ⟨F, hb₁, le₁₁⟩ := F.freeze
    obtain ⟨F, hdx₂, le₁₂⟩ := F.freeze
    repeat walk_at "s"
    have Db : Dct (sK w) _ b [(("levels" : Str), .ref x₁), (("class" : Str), cv)] := ⟨Heap.dictOf_iff.mpr ⟨o₁₁, hb₁, by simpa [stored, show ¬ (Str.ofString "class" = Str.ofString "levels") by decide] using io₁₁⟩, hs₈⟩
    refine q (.ref x) _ _ _ (cs.map fun o => o.map (posOf cs lev)) F.gr ⟨is, .ref x₁, cv, fxs, cls, ⟨D, .ref b, ⟨x, dx, _, _, _, rfl, ⟨sx (by walk_at "up"), hdx₂, I₉.ks⟩, (getL_put Iks _ _ _ _ _).trans ((if_neg (by decide)).trans e1), (getL_put Iks _ _ _ _ _).trans ((if_neg (by decide)).trans e2), hat, rfl, by omega⟩, lD₄.up (by walk_at "up"), b, rfl, Db.up (by walk_at "up")⟩, ?_, V₁.up (by walk_at "up"), ef, vcv.up (by walk_at "up"), ecl⟩ (okCs_used hok) (told_used hok)
    rw [eD]; exact mm (fun o : Option Int => o.map (posOf cs lev)) eO cs
end
end
section
set_option maxRecDepth 100000
set_option maxHeartbeats 4000000
open PySem PySem.W PySem.Calls PyProof.Rows
open PySem.SeqAt (EqAt RcAt)
def strangeL (ts : List (Option Str)) (nl : List Str) : List Str := (ts.filterMap id).filter fun s => !nl.contains s
def codesL (ts : List (Option Str)) (nl : List Str) : List (Option Int) := ts.map fun o => o.map fun s => ((nl.idxOf s : Nat) : Int) + 1
def newMsg (label s : Str) : Str := ((("factor " : Str) ++ label) ++ (" has new level " : Str)) ++ s
theorem told_codes {ts : List (Option Str)} {nl : List Str} (h : ∀ s, some s ∈ ts → s ∈ nl) : told (codesL ts nl) nl = ts := by
  unfold told codesL
  rw [List.map_map]
  conv => rhs; rw [← List.map_id ts]
  apply List.map_congr_left
  intro o ho
  cases o with
  | none => rfl
  | some s =>
    have hlt := List.idxOf_lt_length_iff.mpr (h s ho)
    show some (nl.getD (((nl.idxOf s : Nat) : Int) + 1 - 1).toNat "") = some s
    have : (((nl.idxOf s : Nat) : Int) + 1 - 1).toNat = nl.idxOf s := by omega
    rw [this, List.getD_eq_getElem?_getD, List.getElem?_eq_getElem hlt]
    simp
theorem okCs_codes {ts : List (Option Str)} {nl : List Str} (h : ∀ s, some s ∈ ts → s ∈ nl) : OkCs (codesL ts nl) nl := by
  intro i hi
  obtain ⟨o, ho, e⟩ := List.mem_map.mp hi
  cases o with
  | none => cases e
  | some s =>
    have e : ((nl.idxOf s : Nat) : Int) + 1 = i := Option.some.inj e
    have hlt := List.idxOf_lt_length_iff.mpr (h s ho)
    omega
theorem strange_nil {ts : List (Option Str)} {nl : List Str} (h : ∀ s, some s ∈ ts → s ∈ nl) : strangeL ts nl = [] := by
  unfold strangeL
  rw [List.filter_eq_nil_iff]
  intro s hs
  rw [List.mem_filterMap] at hs
  obtain ⟨o, ho, e⟩ := hs
  simp only [id] at e
  subst e
  simpa using h s ho
theorem strange_head {ts : List (Option Str)} {nl : List Str} {i : Nat} {s : Str} (h : ∀ s, some s ∈ ts.take i → s ∈ nl) (hi : ts[i]? = some (some s)) (hs : s ∉ nl) : (strangeL ts nl).head? = some s := by
  have e : ts = ts.take i ++ some s :: ts.drop (i+1) := by
    have hlt := (List.getElem?_eq_some_iff.mp hi)
    obtain ⟨h1, h2⟩ := hlt
    rw [← h2, List.getElem_cons_drop, List.take_append_drop]
  have h1 := strange_nil h
  unfold strangeL at h1 ⊢
  rw [e, List.filterMap_append, List.filter_append, h1]
  simp [hs]
theorem idxOf_before {nl : List Str} {s : Str} {i : Nat} {u : Str} (h : i < nl.idxOf s) (hu : nl[i]? = some u) : u ≠ s := by
  intro e
  subst e
  obtain ⟨hl, e⟩ := List.getElem?_eq_some_iff.mp hu
  have := List.not_of_lt_findIdx (p := fun x => x == u) (xs := nl) (i := i) h
  simp [e] at this

section
variable {w : World} {A : Around} {E : Value → Shared → Prop} {env : Env} {g h g₀ h₀ : Heap} {gs : Array GenState} {dr : Drawn} {t : Nat} {os : OsState} {m : Str → Option Value} {n : Nat} {wr : Addr → Prop} {μ : List (Addr × Obj)}

/-- integer(xs): the Vector's own dict stays unfrozen -/
theorem c_integer0 {a : Addr} {xs : List Value} {Q : Value → Shared → Prop} (R : Room A (n+3)) (sub : Sub g h) (W : Wd w g) (hl : Lst g a xs) (hn : xs.length ≤ 1000000)
    (q : ∀ x dx b g' h' t' es nn tk, h.get? x = none → h.get? dx = none → Grow NoW g h g' h' → InsAt h' x dx 102 es nn → g'.get? x = some (instObj 102 dx) → g'.get? dx = none → Lst g' b xs → getL "kind" es = some (some (.str "integer" tk)) → getL "items" es = some (some (.ref b)) → getL "attrs" es = some (some .none) → es.length < 10 → Q (.ref x) ⟨h', gs, dr, t', os⟩) :
    wpAny (model PR w) A (call (.ref 113) [.ref a]) Q E ⟨h, gs, dr, t, os⟩ := by
  refine call_v (wr := NoW) sub W R.room (f113 w).2 rfl (by kernel_rfl) rfl rfl rfl (.of_eq rfl) rfl (noWr _) fun L h₁ t₁ E' _ F => ?_
  have R' := R.deeper (callEnvC (f113 w).1 L 113)
  repeat walk_at "s"
  refine c_list F.sub (hl.up F.sub) hn fun b g₂ h₂ hb G lb => ?_
  have F := F.step0 G
  repeat walk_at "s"
  refine c_make R' F.sub F.W (.inl ⟨rfl, rfl⟩) fun x dx g₄ h₄ t₄ es nn hx hdx G I gx gd e1 e2 e3 e4 => ?_
  have hx0 := F.gr.dom _ hx
  have hdx0 := F.gr.dom _ hdx
  have F := F.step0 G
  exact q x dx b _ _ _ es nn _ hx0 hdx0 F.gr I gx gd (lb.up G.le) e1 e2 e3 e4

theorem c_releveled {outer : List Env} {v : Value} {cs : List (Option Int)} {lev nl : List Str} {al : Addr} {nls : List Value} {label : Str} {tkl : Tok} {Q : Value → Shared → Prop} (R : Room A (n+5)) (hfr : A.frames = some outer) (hfo : FrOk h outer) (sub : Sub g h) (W : Wd w g)
    (hf : Fac w g v cs lev) (hok : OkCs cs lev) (hn : lev.length ≤ 100) (hcn : cs.length ≤ 100) (hll : Lst g al nls) (hnl : nls.map er = nl.map eS) (hnn : nl.length ≤ 100) (hls : label.length ≤ 100) (hsl : ∀ s ∈ lev, s.length ≤ 100)
    (q : ∀ x g' h' t' cs', strangeL (told cs lev) nl = [] → Grow NoW g h g' h' → Fac w g' (.ref x) cs' nl → OkCs cs' nl → told cs' nl = told cs lev → Q (.ref x) ⟨h', gs, dr, t', os⟩)
    (qe : ∀ e h' t' tk s, (strangeL (told cs lev) nl).head? = some s → Thrown outer h h' e (.str (newMsg label s) tk) → E (.ref e) ⟨h', gs, dr, t', os⟩) :
    wpAny (model PR w) A (call (.ref 195) [v, .ref al, .str label tkl]) Q E ⟨h, gs, dr, t, os⟩ := by
  have hf0 := hf
  obtain ⟨ys, lv, cv, ls, cls, ⟨a, attrs, hv, hl, ha⟩, eys, ⟨alv, atl, hvl, hllv, hal⟩, els, vcv, ecl⟩ := hf
  have len := len_map els
  have lenc := len_map eys
  have lenn := len_map hnl
  refine call_e (wr := NoW) sub W R.room (f195 w).2 rfl (by kernel_rfl) rfl rfl rfl (.of_eq rfl) rfl (noWr _) fun L h₁ t₁ _ F => ?_
  have R' := R.deeper (callEnvC (f195 w).1 L 195)
  repeat walk_at "s"
  refine c_factor_levels R' F.sub F.W hf0 hn fun ow g₂ h₂ t₂ ows G lo eo => ?_
  have leno := len_map eo
  have F := F.step0 G
  repeat walk_at "s"
  rename Fn _ _ _ _ _ _ _ _ _ => F
  refine ite_f rfl ?_
  refine wpAny_execs_nil ?_
  repeat walk_at "s"
  refine vec_kind F.Wh (hv.up (by walk_at "up")) fun _ _ => ?_
  repeat walk_at "s"
  refine ite_f (by decide) ?_
  repeat walk_at "s"
  refine comp_assign rfl rfl ?_
  repeat walk_at "s"
  refine vec_items F.Wh (hv.up (by walk_at "up")) fun _ => ?_
  refine comp_gen_a rfl (fun _ => rfl) rfl rfl F (src_list R'.hd F.sub (hl.up (by walk_at "up"))) (by omega) cs lenc.symm (fun _ => true) (fun o => eT (o.map fun i => lev.getD (i - 1).toNat "")) (fun i o' C g₁ h₁ t₁ u E' hap hP X G => ?_) fun D g₃ h₃ t₃ nms hD F leD lD eD => ?_
  · obtain ⟨o'', ho', e⟩ := map_at eys hP
    rw [hap] at ho'; cases ho'
    refine tests_nil ⟨rfl, _, _, _, rfl, Grow.refl X.sub, fun _ => ?_⟩
    repeat walk_at "s"
    cases o' with
    | none =>
      obtain rfl := er_none e
      refine ite_t rfl ?_
      repeat walk_at "s"
      exact ⟨rfl, _, _, _, rfl, Grow.refl X.sub⟩
    | some ic =>
      obtain ⟨tk, rfl⟩ := er_int e
      refine ite_f rfl ?_
      repeat walk_at "s"
      obtain ⟨b1, b2⟩ := hok ic (List.mem_of_getElem? hap)
      obtain ⟨sv, hsv⟩ : ∃ s, lev[(ic - 1).toNat]? = some s := ⟨lev[(ic - 1).toNat]'(by omega), by rw [List.getElem?_eq_getElem]⟩
      obtain ⟨ov, hov, eov⟩ := at_map eo hsv
      refine l_item (i := (ic - 1).toNat) (lo.up (by walk_at "up")) (by omega) hov (by omega) ?_ (by with_unfolding_all rfl)
      refine ⟨?_, _, _, _, rfl, Grow.refl X.sub⟩
      rw [eov]
      show eS sv = Value.str (lev.getD (ic - 1).toNat "") 0
      rw [List.getD_eq_getElem?_getD, hsv]; rfl
  rw [List.filter_eq_self.mpr (fun _ _ => rfl)] at eD
  have eD : nms.map er = (told cs lev).map eT := by rw [eD]; exact mm (fun o : Option Int => o.map fun i => lev.getD (i - 1).toNat "") eT cs
  have lt : (told cs lev).length = cs.length := by unfold told; rw [List.length_map]
  have hts : ∀ s, some s ∈ told cs lev → s.length ≤ 100 := fun s hs => by
    obtain ⟨o, ho, e⟩ := List.mem_map.mp hs
    cases o with
    | none => cases e
    | some i =>
      have e := Option.some.inj e
      obtain ⟨b1, b2⟩ := hok i ho
      refine hsl s (List.mem_iff_getElem?.mpr ⟨(i-1).toNat, ?_⟩)
      rw [← e]
      show _ = some (lev.getD (i-1).toNat "")
      rw [List.getD_eq_getElem?_getD, List.getElem?_eq_getElem (by omega)]; rfl
  generalize told cs lev = ts at *
  have lenm := len_map eD
  refine wpAny_execs_nil ?_
  repeat walk_at "s"
  refine l_new F fun f h₄ F => ?_
  repeat walk_at "s"
  rename Fn _ _ _ _ _ _ _ _ _ => F
  refine for_stmt ?_
  repeat walk_at "s"
  refine for_k rfl F (src_list R'.hd F.sub (lD.up (by walk_at "up"))) (fun i μ m g => ∃ fxs k, μ = [(f, lob fxs k)] ∧ fxs.map er = (codesL (ts.take i) nl).map eO ∧ (∀ s, some s ∈ ts.take i → s ∈ nl) ∧ m "codes" = some (.ref f) ∧ m "levels" = some (.ref al) ∧ m "label" = some (.str label tkl))
    ⟨[], 0, rfl, rfl, fun _ h => by simp at h, rfl, rfl, rfl⟩
    (fun i p μ' m' g' h' t' u hi hu inv F le => ?_) (fun μ' m' g' h' t' F le inv => ?_)
  · obtain ⟨fxs, k, rfl, ef, hin, hm1, hm2, hm3⟩ := inv
    obtain ⟨o, ho, e⟩ := map_at eD hu
    have lf := len_map ef
    have lf2 : (codesL (ts.take i) nl).length ≤ 100 := by unfold codesL; rw [List.length_map, List.length_take]; omega
    have hsucc : codesL (ts.take (i+1)) nl = codesL (ts.take i) nl ++ [o.map fun s => ((nl.idxOf s : Nat) : Int) + 1] := by
      unfold codesL; rw [List.take_add_one, ho]; simp
    have fin : ∀ (y : Value), er y = eO (o.map fun s => ((nl.idxOf s : Nat) : Int) + 1) → (∀ s, o = some s → s ∈ nl) → ∀ t₅ (E₂ : Value → Shared → Prop), wpAny (model PR w) (A.deeper (callEnvC (f195 w).1 L 195)) (call (.builtin "list.append") [.ref f, y]) (fun _ s' => ∃ μ'' m'' g'' h'' t'', s' = ⟨h'', gs, dr, t'', os⟩ ∧ Fn w NoW g h (callEnvC (f195 w).1 L 195) (p :: μ'') m'' g'' h'' ∧ Sub g' g'' ∧
        ∃ fxs k, μ'' = [(f, lob fxs k)] ∧ fxs.map er = (codesL (ts.take (i+1)) nl).map eO ∧ (∀ s, some s ∈ ts.take (i+1) → s ∈ nl) ∧ m'' "codes" = some (.ref f) ∧ m'' "levels" = some (.ref al) ∧ m'' "label" = some (.str label tkl)) E₂ ⟨h', gs, dr, t₅, os⟩ := by
      intro y hy hs t₅ E₂
      refine l_appN [p] F (by omega) fun h₅ k₅ F => ?_
      refine ⟨_, _, _, h₅, _, rfl, F, Sub.refl, _, k₅, rfl, by rw [hsucc, List.map_append, List.map_append, ef]; simp [hy], fun s hs' => ?_, by walk_at "m", by walk_at "m", by walk_at "m"⟩
      rw [List.take_add_one, ho] at hs'
      rcases List.mem_append.mp hs' with h1 | h1
      · exact hin s h1
      · exact hs s (Eq.symm (by simpa using h1))
    repeat walk_at "s"
    cases o with
    | none =>
      obtain rfl := er_none e
      refine ite_t rfl ?_
      repeat walk_at "s"
      refine call_meth_b PySem.F.plainAttrs_list PySem.F.slot_list_append PySem.F.type_list_append ?_
      repeat walk_at "s"
      refine ⟨⟨f, _, rfl, (F.led _ (.tail _ (.head _))).1, rfl, rfl⟩, ?_⟩
      repeat walk_at "s"
      refine wpAny_mono (fin _ rfl (fun _ h => by cases h) _ _) (fun _ _ q => wpAny_execs_nil (wpAny_execs_nil q)) fun _ _ z => z
    | some sv =>
      obtain ⟨tk, rfl⟩ := er_str e
      refine ite_f rfl ?_
      repeat walk_at "s"
      refine l_in (hll.up (by walk_at "up")) (flats (f := eS) (fun _ _ => flat_eS) hnl) rfl ?_
      rw [show er (Value.str sv tk) = Value.str sv 0 from rfl, any_eS hnl]
      repeat walk_at "s"
      refine ite_s (fun hb => ?_) fun hb => ?_
      · have hmem : sv ∈ nl := by simpa using hb
        repeat walk_at "s"
        refine call_meth_b PySem.F.plainAttrs_list PySem.F.slot_list_append PySem.F.type_list_append ?_
        repeat walk_at "s"
        refine ⟨⟨f, _, rfl, (F.led _ (.tail _ (.head _))).1, rfl, rfl⟩, ?_⟩
        repeat walk_at "s"
        refine call_meth_b PySem.F.plainAttrs_list PySem.F.slot_list_index PySem.F.type_list_index ?_
        repeat walk_at "s"
        refine ⟨(hll.up (by walk_at "up") : Lst h' al nls).ty, ?_⟩
        repeat walk_at "s"
        have hlt := List.idxOf_lt_length_iff.mpr hmem
        obtain ⟨vv, hvv, evv⟩ := at_map hnl (i := nl.idxOf sv) (t := sv) (by rw [List.getElem?_eq_getElem hlt]; simp)
        refine l_index (hll.up (by walk_at "up")) (by omega) (flats (f := eS) (fun _ _ => flat_eS) hnl) rfl hvv (by rw [evv]; exact beq_self_eq_true _) (fun i' u' hi' hu' => ?_) fun _ _ => ?_
        · obtain ⟨s', hs', es'⟩ := map_at hnl hu'
          rw [es', beq_eq_false_iff_ne]
          intro q
          have : s' = sv := by simpa [eS, er] using q
          exact idxOf_before hi' hs' this
        repeat walk_at "s"
        refine wpAny_mono (fin _ rfl (fun _ h => by cases h; exact hmem) _ _) (fun _ _ q => wpAny_execs_nil (wpAny_execs_nil (wpAny_execs_nil q))) fun _ _ z => z
      · have hmem : sv ∉ nl := by simpa using hb
        refine wpAny_execs_cons (raise_exc R'.hd ?_)
        repeat walk_at "s"
        have hsv := hts sv (List.mem_of_getElem? ho)
        have l1 : ∀ (a b : Str), (a ++ b).length = a.length + b.length := fun a b => by show (a.cps ++ b.cps).size = _; simp [Str.length]
        have l2 : (("factor " : Str) : Str).length = 7 := rfl
        have l3 : ((" has new level " : Str) : Str).length = 15 := rfl
        refine o_sadd (by omega) fun _ _ => ?_
        repeat walk_at "s"
        refine o_sadd (by rw [l1]; omega) fun _ _ => ?_
        repeat walk_at "s"
        refine o_sadd (by rw [l1, l1]; omega) fun _ _ => ?_
        repeat walk_at "s"
        refine c_refusal R' F.sub F.W fun ex dx tp h₄ t₄ hex hdx hs X hed => ?_
        refine ⟨ex, dx, tp, _, rfl, F.Wh.mono hs, X, ?_⟩
        have rr := rai F (Around.frames_deeper hfr) hfo rfl hs hex hdx hed X
        refine leave_for rr.fr rr.ok rfl X rr.dxn hed rfl fun h' T hT t X' tb => ?_
        exact qe _ _ _ _ sv (strange_head hin ho hmem) (rr.thrown h' T hT (fun q => by rw [q, X.ob] at hT; cases hT) t X' tb)
  · obtain ⟨fxs, k, rfl, ef, hin, hm1, hm2, hm3⟩ := inv
    rw [lenm, List.take_length] at ef hin
    have lf := len_map ef
    have lf2 : (codesL ts nl).length ≤ 100 := by unfold codesL; rw [List.length_map]; omega
    obtain ⟨F, hdf, le₆⟩ := F.freeze
    repeat walk_at "s"
    refine c_integer0 R' F.sub F.W ⟨k, hdf⟩ (by omega) fun x dx b g₇ h₇ t₇ es nn tk hx hdx G I gx gd lb e1 e2 e3 e4 => ?_
    have hx0 := F.gr.dom _ hx
    have F := F.adopt G hdx gd I.di
    have le₈ := G.le
    have Iks := I.ks
    have sx : ∀ {hh : Heap}, Sub g₇ hh → hh.get? x = some (instObj 102 dx) := fun s => s _ _ gx
    repeat walk_at "s"
    rename Fn _ _ _ _ _ _ _ _ _ => F
    refine d_disp2 (by decide) F fun d₂ h₇ t₇ hsy₂ F => ?_
    repeat walk_at "s"
    refine c_character R' F.sub F.W (hll.up (by walk_at "up")) (by omega) fun x₁ g₈ h₈ t₈ hx₁ G V₁ => ?_
    have F := F.step0 G
    have le₈ := G.le
    intro t₉
    repeat walk_at "s"
    refine l_display ?_
    repeat walk_at "s"
    refine ⟨by simp, _, _, _, rfl, F.sub, fun a₉ g₉ h₉ ha₉ G l₉ => ?_⟩
    have F := F.step0 G
    have le₉ := G.le
    repeat walk_at "s"
    refine c_character R' F.sub F.W l₉ (by simp) fun x₂ g₁₀ h₁₀ t₁₀ hx₂ G V₂ => ?_
    have F := F.step0 G
    have le₁₀ := G.le
    refine ⟨(F.led _ (.head _)).1, fun h₁₁ o₂ S e₂' i₂ t₁₁ => ?_⟩
    have F := F.mut1 S.extBut e₂'
    obtain ⟨F, hd₂, le₁₁⟩ := F.freeze
    have D₂ : Dct (sK w) (plus g₁₀ h₁₁ fun b => b = d₂) d₂ [("levels", .ref x₁), ("class", .ref x₂)] := ⟨Heap.dictOf_iff.mpr ⟨o₂, hd₂, i₂⟩, hsy₂⟩
    repeat walk_at "s"
    refine set_ins F.Wh.K ⟨sx (by walk_at "up"), (F.led _ (.head _)).1, Iks⟩ (by kernel_rfl) (by kernel_rfl) (by kernel_rfl) (by kernel_rfl) (by omega) fun h₁₂ t₁₂ k₁₂ s₁₂ I₁₂ => ?_
    have l6 := putL_has Iks e3 (PyData.keyHash w.params "attrs") k₁₂ (.ref d₂)
    have F := F.mut1 s₁₂.extBut I₁₂.di
    obtain ⟨F, hdx₂, le₁₂⟩ := F.freeze
    repeat walk_at "s"
    refine q x _ _ _ (codesL ts nl) (strange_nil hin) F.gr ⟨fxs, .ref x₁, .ref x₂, nls, _, ⟨b, .ref d₂, ⟨x, dx, _, _, _, rfl, ⟨sx (by walk_at "up"), hdx₂, I₁₂.ks⟩, (getL_put Iks _ _ _ _ _).trans ((if_neg (by decide)).trans e1), (getL_put Iks _ _ _ _ _).trans ((if_neg (by decide)).trans e2), (getL_put Iks _ _ _ _ _).trans (if_pos rfl), rfl, by omega⟩, lb.up (by walk_at "up"), d₂, rfl, D₂.up (by walk_at "up")⟩, ef, V₁.up (by walk_at "up"), hnl, V₂.up (by walk_at "up"), rfl⟩ (okCs_codes hin) (told_codes hin)
end
end
section
set_option maxRecDepth 100000
set_option maxHeartbeats 4000000
open PySem PySem.W PySem.Calls PyProof.Rows
open PySem.SeqAt (EqAt RcAt)
theorem paired_all {α β : Type} {Y : β → Prop} : ∀ {l : List α} {ys : List β}, Paired (fun _ y => Y y) l ys → ∀ y ∈ ys, Y y
  | _, _, .nil, _, hy => by cases hy
  | _, _, .cons a b, y, hy => (List.mem_cons.mp hy).elim (fun e => e ▸ a) fun hy => paired_all b y hy
/-- the row: ints to be taken -/
def RowAt (h : Heap) (a : Addr) : Prop := ∃ xs k ns, h.get? a = some (lob xs k) ∧ xs.map er = (ns : List Int).map eI ∧ xs.length ≤ 200
theorem RowAt.of {h h' : Heap} {a : Addr} (r : RowAt h a) (k : ∀ o, h.get? a = some o → h'.get? a = some o) : RowAt h' a := let ⟨xs, n, ns, e, r⟩ := r; ⟨xs, n, ns, k _ e, r⟩

section
variable {w : World} {A : Around} {E : Value → Shared → Prop} {env : Env} {g h g₀ h₀ g' h' : Heap} {gs : Array GenState} {dr : Drawn} {t : Nat} {os : OsState} {m : Str → Option Value} {n : Nat} {wr : Addr → Prop} {μ : List (Addr × Obj)}

theorem l_ne {a b : Addr} {xs ys : List Value} {Q : Value → Shared → Prop} {n : Nat} (R : Room A n) (ha : Lst h a xs) (hb : Lst h b ys) (hf : ∀ y ∈ xs, flat y = true) (hg : ∀ y ∈ ys, flat y = true) (q : Q (.bool (!decide (xs.map er = ys.map er))) ⟨h, gs, dr, t, os⟩) :
    wpAny (model PR w) A (compareOp .NotEq (.ref a) (.ref b)) Q E ⟨h, gs, dr, t, os⟩ := by
  by_cases hl : xs.length = ys.length
  · have e : ((List.range xs.toArray.size).all fun j => (xs[j]?.map er) == (ys[j]?.map er)) = decide (xs.map er = ys.map er) := by
      rw [Bool.eq_iff_iff, List.all_eq_true, decide_eq_true_eq, List.size_toArray]
      constructor
      · intro hh
        apply List.ext_getElem?
        intro j
        rw [List.getElem?_map, List.getElem?_map]
        by_cases hj : j < xs.length
        · exact beq_iff_eq.mp (hh j (List.mem_range.mpr hj))
        · rw [List.getElem?_eq_none (Nat.not_lt.mp hj), List.getElem?_eq_none (by rw [← hl]; exact Nat.not_lt.mp hj)]
      · intro hh j hj
        rw [beq_iff_eq, ← List.getElem?_map, ← List.getElem?_map, hh]
    refine PySem.SeqAt.RcNeAt.lists (s := ⟨h, gs, dr, t, os⟩) (e := fun j => (xs[j]?.map er) == (ys[j]?.map er)) ha.is hb.is (by simpa using hl) R.units (fun j h1 h2 => ?_) _ _ _ _ (by rw [e]; exact q)
    rw [List.size_toArray] at h1 h2
    rw [List.getElem?_eq_getElem h1, List.getElem?_eq_getElem h2, Option.map_some, Option.map_some]
    have : (some (er xs[j]) == some (er ys[j])) = (er xs[j] == er ys[j]) := rfl
    rw [this]
    simpa using eqAt_flat (A := A.in1) (s := ⟨h, gs, dr, t, os⟩) (hf _ (List.getElem_mem h1)) (hg _ (List.getElem_mem h2))
  · refine PySem.SeqAt.RcNeAt.lists_lengths (s := ⟨h, gs, dr, t, os⟩) ha.is hb.is (by simpa using hl) R.units _ _ _ _ ?_
    have : decide (xs.map er = ys.map er) = false := by
      rw [decide_eq_false_iff_not]; intro e; exact hl (by simpa using congrArg List.length e)
    rw [this] at q; exact q

/-- a callee that writes one thing of the ledger -/
theorem Fn.stepN (l1 : List (Addr × Obj)) {l2 : List (Addr × Obj)} {a : Addr} {o o' : Obj} (F : Fn w wr g₀ h₀ env (l1 ++ (a, o) :: l2) m g h) (gr : Grow (OnlyW a) g h g' h') (he : h'.get? a = some o') : Fn w wr g₀ h₀ env (l1 ++ (a, o') :: l2) m g' h' := by
  have hm : (a, o) ∈ l1 ++ (a, o) :: l2 := List.mem_append.mpr (.inr (.head _))
  obtain ⟨e1, e2, e3, e4⟩ := F.led _ hm
  have hd := F.dis
  have hd' : ((l1 ++ (a, o') :: l2).map (·.1)).Nodup := by simpa using hd
  have X := F.toEx.step gr fun b q => q ▸ e4
  refine ⟨X, ⟨F.gr.le.trans gr.le, gr.sub, fun b ob e => ?_, fun b ob nb e => ?_, fun b e => F.gr.dom b (gr.dom b e)⟩, F.new, F.wrn, fun p hp => ?_, hd'⟩
  · rcases gr.new b ob e with q | q
    · exact F.gr.new b ob q
    · exact .inr (F.gr.dom b q)
  · exact gr.keep b ob (fun q => by rw [q, e3] at e; cases e) (F.gr.keep b ob nb e)
  · have oth : ∀ p, p ∈ l1 ++ (a, o) :: l2 → p.1 ≠ a → h'.get? p.1 = some p.2 ∧ g'.get? p.1 = none ∧ h₀.get? p.1 = none ∧ ¬ Own env p.1 := fun p hp hn => by
      obtain ⟨k1, k2, k3, k4⟩ := F.led p hp
      exact ⟨gr.keep _ _ hn k1, gr.out k2 k1, k3, k4⟩
    rw [List.map_append, List.nodup_append, List.map_cons, List.nodup_cons] at hd
    obtain ⟨_, ⟨n1, _⟩, n2⟩ := hd
    rcases List.mem_append.mp hp with hp | hp
    · exact oth p (List.mem_append.mpr (.inl hp)) (n2 p.1 (List.mem_map_of_mem (f := (·.1)) hp) a (.head _))
    · rcases List.mem_cons.mp hp with q | hp
      · rw [q]; exact ⟨he, gr.out e2 e1, e3, e4⟩
      · exact oth p (List.mem_append.mpr (.inr (.tail _ hp))) fun q => n1 (q ▸ List.mem_map_of_mem (f := (·.1)) hp)

theorem c_law_next {a : Addr} {Q : Value → Shared → Prop} (R : Room A (n+1)) (sub : Sub g h) (W : Wd w g) (hg : g.get? a = none) (hr : RowAt h a)
    (q : ∀ g' h' t' i tk, Grow (OnlyW a) g h g' h' → RowAt h' a → Q (.int i tk) ⟨h', gs, dr, t', os⟩) :
    wpAny (model PR w) A (call (.ref 209) [.ref a]) Q E ⟨h, gs, dr, t, os⟩ := by
  obtain ⟨xs, k, ns, hl, hx, hn⟩ := hr
  refine call_v (wr := OnlyW a) sub W R.room (f209 w).2 rfl (by kernel_rfl) rfl rfl rfl (.of_eq rfl) rfl (fun b e => e ▸ ⟨⟨_, hl⟩, hg⟩) fun L h₁ t₁ E' K F => ?_
  have R' := R.deeper (callEnvC (f209 w).1 L 209)
  have hl1 := K _ _ hl
  repeat walk_at "s"
  refine l_display ?_
  repeat walk_at "s"
  refine ⟨by simp, _, _, _, rfl, F.sub, fun a₂ g₂ h₂ ha₂ G l₂ => ?_⟩
  have F := F.step0 G
  have hl2 := G.keep0 _ _ hl1
  have hg2 := G.out hg hl1
  refine l_ne R' ⟨k, hl2⟩ (l₂.up F.sub) (flats (f := eI) (fun _ _ => flat_eI) hx) (by simp) ?_
  repeat walk_at "s"
  refine ite_s (fun hb => ?_) fun hb => ?_
  · have hne : xs ≠ [] := fun e => by subst e; simp at hb
    obtain ⟨ys, y, rfl⟩ : ∃ ys y, xs = ys ++ [y] := ⟨xs.dropLast, xs.getLast hne, (List.dropLast_concat_getLast hne).symm⟩
    refine call_meth_b PySem.F.plainAttrs_list PySem.F.slot_list_pop PySem.F.type_list_pop ?_
    repeat walk_at "s"
    refine ⟨⟨a, _, rfl, hl2, rfl, rfl⟩, ?_⟩
    repeat walk_at "s"
    simp only [List.length_append, List.length_singleton] at hn
    refine l_pop hl2 (by omega) fun h₃ hl3 S => ?_
    have F := F.mutW rfl hg2 S.extBut ⟨_, hl3⟩
    have hns : ns ≠ [] := fun e => by subst e; simp at hx
    obtain ⟨ms, i, rfl⟩ : ∃ ms i, ns = ms ++ [i] := ⟨ns.dropLast, ns.getLast hns, (List.dropLast_concat_getLast hns).symm⟩
    rw [List.map_append, List.map_append] at hx
    obtain ⟨h1, h2⟩ := List.append_inj' hx rfl
    simp only [List.map_cons, List.map_nil, List.cons.injEq, and_true] at h2
    obtain ⟨tk, rfl⟩ := er_int h2
    exact q _ _ _ i tk F.gr ⟨ys, k + 1, ms, hl3, h1, by omega⟩
  · repeat walk_at "s"
    exact q _ _ _ _ _ F.gr ⟨xs, k, ns, hl2, hx, hn⟩

/-- a comprehension whose element takes from the row -/
theorem comp_row {elt iter : Expr} {x : Str} {px : Pos} {scope : Scope} {pos : Pos} {Q : Value → Shared → Prop} {xv : Value} {P : Nat → Value → Prop} {a : Addr} (hok : compOk scope env = true)
    (hx : ∀ C, (isLocal (cenvOf scope env C) x || isCellN (cenvOf scope env C) x) = true) (hxc : (clOf env scope.names []).lookup x = none) (X : Ex w env m g h) (S : Src PR w A g h xv n P) (hsz : n ≤ 1000000)
    (hO : ¬ Own env a) (hg : g.get? a = none) (hr : RowAt h a) (Yv : Heap → Value → Prop) (hY : ∀ g g' y, Yv g y → Sub g g' → Yv g' y)
    (T : ∀ i C g₁ h₁ t₁ v E', P i v → Ex w (cenvOf scope env C) (upd (capt (clOf env scope.names []) m) x v) g₁ h₁ → Grow (OnlyW a) g h g₁ h₁ → ¬ Own (cenvOf scope env C) a → g₁.get? a = none → RowAt h₁ a →
      wpAny (model PR w) A (eval elt (cenvOf scope env C)) (fun y s₃ => ∃ g₃ h₃ t₃, s₃ = ⟨h₃, gs, dr, t₃, os⟩ ∧ Grow (OnlyW a) g₁ h₁ g₃ h₃ ∧ RowAt h₃ a ∧ Yv g₃ y) E' ⟨h₁, gs, dr, t₁, os⟩)
    (hQ : ∀ D g' h' t' ys, h.get? D = none → Grow (OnlyW a) g h g' h' → Lst g' D ys → ys.length = n → (∀ y ∈ ys, Yv g' y) → RowAt h' a → Q (.ref D) ⟨h', gs, dr, t', os⟩) :
    CompGoal PR w A E env (.ListComp elt [⟨.Name x px, iter, [], 0⟩] scope pos) scope none Q xv ⟨h, gs, dr, t, os⟩ := by
  have ho : ∃ o, h.get? a = some o := let ⟨_, _, _, e, _⟩ := hr; ⟨_, e⟩
  refine comp_k (wrs := OnlyW a) (Ms := fun _ h => RowAt h a) (Y := fun _ g y => Yv g y) (p := fun _ => true) hok hx hxc X S (by rw [sizeLine_eq]; omega) (fun b q => q ▸ ⟨hO, ho, hg⟩) hr (fun _ _ _ r k => r.of fun o e => k _ o rfl e) (fun _ => hY) ⟨fun i C g₁ h₁ t₁ v E' hi hP X' G hw hM => ?_⟩ fun D g' h' t' ys hD G lD hlen hp hM => ?_
  · refine tests_nil ?_
    rw [if_pos rfl]
    have hg1 : g₁.get? a = none := G.out hg ho.choose_spec
    refine ⟨rfl, wpAny_mono (T i C g₁ h₁ t₁ v E' hP X' G (hw a rfl) hg1 hM) (fun y s₃ z => ?_) fun _ _ e => e⟩
    obtain ⟨g₃, h₃, t₃, rfl, G3, r3, y3⟩ := z
    exact ⟨g₃, h₃, t₃, rfl, G3, y3, r3⟩
  · rw [List.filter_eq_self.mpr (fun _ _ => rfl)] at hp
    refine hQ D g' h' t' ys hD G lD (by have := paired_len hp; simpa using this) (fun y hy => ?_) hM
    exact paired_all hp y hy

theorem comp_row_a {elt iter : Expr} {x y : Str} {px py : Pos} {scope : Scope} {pos : Pos} {Q : Value → Shared → Prop} {xv : Value} {P : Nat → Value → Prop} {a : Addr} {o : Obj} {l1 l2 : List (Addr × Obj)} (hok : compOk scope env = true)
    (hx : ∀ C, (isLocal (cenvOf scope env C) x || isCellN (cenvOf scope env C) x) = true) (hxc : (clOf env scope.names []).lookup x = none) (hy : (isLocal env y || isCellN env y) = true) (F : Fn w wr g₀ h₀ env (l1 ++ (a, o) :: l2) m g h) (S : Src PR w A g h xv n P) (hsz : n ≤ 1000000)
    (hr : RowAt h a) (Yv : Heap → Value → Prop) (hY : ∀ g g' y, Yv g y → Sub g g' → Yv g' y)
    (T : ∀ i C g₁ h₁ t₁ v E', P i v → Ex w (cenvOf scope env C) (upd (capt (clOf env scope.names []) m) x v) g₁ h₁ → Grow (OnlyW a) g h g₁ h₁ → ¬ Own (cenvOf scope env C) a → g₁.get? a = none → RowAt h₁ a →
      wpAny (model PR w) A (eval elt (cenvOf scope env C)) (fun y s₃ => ∃ g₃ h₃ t₃, s₃ = ⟨h₃, gs, dr, t₃, os⟩ ∧ Grow (OnlyW a) g₁ h₁ g₃ h₃ ∧ RowAt h₃ a ∧ Yv g₃ y) E' ⟨h₁, gs, dr, t₁, os⟩)
    (hQ : ∀ D g' h' t' ys o', h.get? D = none → Fn w wr g₀ h₀ env (l1 ++ (a, o') :: l2) (upd m y (.ref D)) g' h' → Sub g g' → Lst g' D ys → ys.length = n → (∀ y ∈ ys, Yv g' y) → RowAt h' a → Q .none ⟨h', gs, dr, t', os⟩) :
    CompGoal PR w A E env (.ListComp elt [⟨.Name x px, iter, [], 0⟩] scope pos) scope (some (assign (.Name y py) env)) Q xv ⟨h, gs, dr, t, os⟩ := by
  have ho : ∃ o, h.get? a = some o := let ⟨_, _, _, e, _⟩ := hr; ⟨_, e⟩
  obtain ⟨e1, hg, e3, hO⟩ := F.led _ (List.mem_append.mpr (.inr (.head _)))
  refine comp_ka (wrs := OnlyW a) (Ms := fun _ h => RowAt h a) (Y := fun _ g y => Yv g y) (p := fun _ => true) hok hx hxc hy F.toEx S (by rw [sizeLine_eq]; omega) (fun b q => q ▸ ⟨hO, ho, hg⟩) hr (fun _ _ _ r k => r.of fun o e => k _ o rfl e) (fun _ => hY) ⟨fun i C g₁ h₁ t₁ v E' hi hP X' G hw hM => ?_⟩ fun D g' h₁ h' t' ys b hD G lD hlen hp hM V hb hs => ?_
  · refine tests_nil ?_
    rw [if_pos rfl]
    have hg1 : g₁.get? a = none := G.out hg ho.choose_spec
    refine ⟨rfl, wpAny_mono (T i C g₁ h₁ t₁ v E' hP X' G (hw a rfl) hg1 hM) (fun y s₃ z => ?_) fun _ _ e => e⟩
    obtain ⟨g₃, h₃, t₃, rfl, G3, r3, y3⟩ := z
    exact ⟨g₃, h₃, t₃, rfl, G3, y3, r3⟩
  · rw [List.filter_eq_self.mpr (fun _ _ => rfl)] at hp
    obtain ⟨o1, ho1⟩ : ∃ o1, h₁.get? a = some o1 := by
      cases q : h₁.get? a with
      | none => obtain ⟨o', e'⟩ := ho; rw [G.dom a q] at e'; cases e'
      | some o1 => exact ⟨o1, rfl⟩
    refine hQ D g' h' t' ys o1 hD ((F.stepN l1 G ho1).store V hb hs) G.le lD (by have := paired_len hp; simpa using this) (fun y hy => ?_) hM
    exact paired_all hp y hy
end
end
section
set_option maxRecDepth 100000
set_option maxHeartbeats 4000000
open PySem PySem.W PySem.Calls PyProof.Rows
open PySem.SeqAt (EqAt RcAt)
theorem fmod_nat (i : Int) (k : Nat) (hk : 0 < k) : ∃ r : Nat, i.fmod (k : Int) = (r : Int) ∧ r < k := by
  have h0 : (0 : Int) < (k : Int) := by omega
  have h1 := Int.fmod_nonneg_of_pos i h0
  have h2 := Int.fmod_lt_of_pos i h0
  exact ⟨(i.fmod (k : Int)).toNat, by omega, by omega⟩
theorem take_all {α : Type} {P : Value → α → Prop} {ys : List Value} (h : ∀ y ∈ ys, ∃ t, P y t) : ∃ ts : List α, Paired P ys ts := by
  induction ys with
  | nil => exact ⟨[], .nil⟩
  | cons y r ih =>
    obtain ⟨t, ht⟩ := h y (.head _)
    obtain ⟨ts, hts⟩ := ih fun y hy => h y (.tail _ hy)
    exact ⟨t :: ts, .cons ht hts⟩
theorem paired_er {α : Type} {f : α → Value} {R : α → Prop} : ∀ {ys : List Value} {ts : List α}, Paired (fun y t => er y = f t ∧ R t) ys ts → ys.map er = ts.map f ∧ ∀ t ∈ ts, R t
  | _, _, .nil => ⟨rfl, fun _ h => by cases h⟩
  | _, _, .cons a b => by
    obtain ⟨h1, h2⟩ := paired_er b
    refine ⟨by rw [List.map_cons, List.map_cons, a.1, h1], fun t ht => ?_⟩
    rcases List.mem_cons.mp ht with rfl | ht
    · exact a.2
    · exact h2 t ht
def poolL : List (Option Str) := [some "b", some "a", some "", some "ab", none, some "B", some "a"]
def Texts (ts : List (Option Str)) (n : Nat) : Prop := ts.length = n ∧ ∀ s, some s ∈ ts → s.length ≤ 2

section
variable {w : World} {A : Around} {E : Value → Shared → Prop} {env : Env} {g h g₀ h₀ g' h' : Heap} {gs : Array GenState} {dr : Drawn} {t : Nat} {os : OsState} {m : Str → Option Value} {n : Nat} {wr : Addr → Prop} {μ : List (Addr × Obj)}

theorem RowAt.ex {a : Addr} (r : RowAt h a) : ∃ o, h.get? a = some o := let ⟨_, _, _, e, _⟩ := r; ⟨_, e⟩
theorem store_row {M : Model} {a : Addr} {x : Str} {v : Value} {Q : Unit → Shared → Prop} (F : Fn w (OnlyW a) g₀ h₀ env μ m g h) (hr : RowAt h a) (hx : (isLocal env x || isCellN env x) = true)
    (q : ∀ h' t', Fn w (OnlyW a) g₀ h₀ env μ (upd m x v) g h' → RowAt h' a → Q () ⟨h', gs, dr, t', os⟩) : wpAny M A (storeName env x v) Q E ⟨h, gs, dr, t, os⟩ :=
  store_any F.V hx fun _ _ _ V ha hs => q _ _ (F.store V ha hs.extBut) (hr.of fun o e => hs.extBut a o (fun q => F.wrOwn a rfl (q ▸ own_of ha)) e)

theorem lst_at {α : Type} {a : Addr} {xs : List Value} {ts : List α} {f : α → Value} (_ : Lst g a xs) (e : xs.map er = ts.map f) {i : Nat} {t : α} (h : ts[i]? = some t) : ∃ v, xs[i]? = some v ∧ er v = f t := at_map e h
theorem c_law_texts {a : Addr} {many : Nat} {tkm : Tok} {Q : Value → Shared → Prop} (R : Room A (n+2)) (sub : Sub g h) (W : Wd w g) (hg : g.get? a = none) (hr : RowAt h a) (hm : many ≤ 100)
    (q : ∀ D g' h' t' ys ts, Grow (OnlyW a) g h g' h' → RowAt h' a → Lst g' D ys → ys.map er = ts.map eT → Texts ts many → Q (.ref D) ⟨h', gs, dr, t', os⟩) :
    wpAny (model PR w) A (call (.ref 214) [.ref a, .int many tkm]) Q E ⟨h, gs, dr, t, os⟩ := by
  have hr0 := hr
  obtain ⟨xs, k, ns, hl, hx, hn⟩ := hr0
  refine call_v (wr := OnlyW a) sub W R.room (f214 w).2 rfl (by kernel_rfl) rfl rfl rfl (.of_eq rfl) rfl (fun b e => e ▸ ⟨⟨_, hl⟩, hg⟩) fun L h₁ t₁ E' K F => ?_
  have R' := R.deeper (callEnvC (f214 w).1 L 214)
  have hr1 : RowAt h₁ a := hr.of fun o e => K _ _ e
  repeat walk_at "s"
  refine l_display ?_
  repeat walk_at "s"
  refine ⟨by simp, _, _, _, rfl, F.sub, fun a₂ g₂ h₂ ha₂ G l₂ => ?_⟩
  have hg2 := G.out hg (show h₁.get? a = some _ from K _ _ hl)
  have hr2 : RowAt h₂ a := hr1.of fun o e => G.keep0 _ _ e
  have F := F.step0 G
  refine store_row F hr2 rfl fun h₃ t₃ F hr3 => ?_
  repeat walk_at "s"
  refine comp_expr rfl ?_
  repeat walk_at "s"
  refine r_range F.sub fun r g₅ h₅ t₅ x y z hrn G5 hrr => ?_
  have hg5 := G5.out hg2 hr3.ex.choose_spec
  have hr5 : RowAt h₅ a := hr3.of fun o e => G5.keep0 _ _ e
  have F := F.step0 G5
  refine comp_row (a := a) rfl (fun _ => rfl) rfl F.toEx (src_range R'.hd (by omega) hrr) (by omega) (F.wrOwn a rfl) hg5 hr5 (fun _ y => ∃ t, er y = eT t ∧ t ∈ poolL) (fun _ _ _ h _ => h) (fun i C g₁ h₁ t₁ v E' hP X G hw hga hra => ?_) fun D g₆ h₆ t₆ ys hD G lD ly hy hr6 => ?_
  · repeat walk_at "s"
    refine c_law_next R' X.sub X.W hga hra fun g₇ h₇ t₇ i tk G7 hr7 => ?_
    have X7 := X.step G7 (fun b q => q ▸ hw)
    repeat walk_at "s"
    refine o_mod (by decide) fun _ _ => ?_
    obtain ⟨r, hr, hlt⟩ := fmod_nat i 7 (by decide)
    rw [show i.fmod 7 = (r : Int) from hr]
    obtain ⟨o, ho⟩ : ∃ o, poolL[r]? = some o := ⟨poolL[r]'(by simpa [poolL] using hlt), by rw [List.getElem?_eq_getElem]⟩
    obtain ⟨v, hv, ev⟩ := lst_at (ts := poolL) (f := eT) l₂ rfl ho
    refine l_item (l₂.up (by walk_at "up")) rfl hv (by simp) ?_ (by with_unfolding_all rfl)
    exact ⟨_, _, _, rfl, G7, hr7, o, ev, List.mem_of_getElem? ho⟩
  · obtain ⟨ts, hts⟩ := take_all hy
    obtain ⟨e1, e2⟩ := paired_er hts
    have F := F.step G
    refine q D _ _ _ ys ts F.gr hr6 lD e1 ⟨by rw [← len_map e1]; exact ly, fun s hs => ?_⟩
    have := e2 _ hs
    simp only [poolL, List.mem_cons, Option.some.injEq, reduceCtorEq, false_or, List.not_mem_nil, or_false] at this
    rcases this with rfl | rfl | rfl | rfl | rfl | rfl <;> decide
end
end
section
set_option maxRecDepth 100000
set_option maxHeartbeats 4000000
open PySem PySem.W PySem.Calls PyProof.Rows
open PySem.SeqAt (EqAt RcAt)
def IntL (xs : List Value) : Prop := ∀ y ∈ xs, ∃ i tk, y = .int i tk
theorem intL_er {xs : List Value} (h : IntL xs) : ∃ ns : List Int, xs.map er = ns.map eI := by
  obtain ⟨ts, hts⟩ := take_all (P := fun y i => er y = eI i ∧ True) (ys := xs) fun y hy => let ⟨i, tk, e⟩ := h y hy; ⟨i, by rw [e]; rfl, trivial⟩
  exact ⟨ts, (paired_er hts).1⟩

section
variable {w : World} {A : Around} {E : Value → Shared → Prop} {env : Env} {g h g₀ h₀ g' h' : Heap} {gs : Array GenState} {dr : Drawn} {t : Nat} {os : OsState} {m : Str → Option Value} {n : Nat} {wr : Addr → Prop} {μ : List (Addr × Obj)}

/-- xs[:k], the new list one's own -/
theorem l_slice0 {value upper : Expr} {p pos : Pos} {Q : Value → Shared → Prop}
    (hq : wpAny (model PR w) A (eval value env) (fun o s₁ => wpAny (model PR w) A (evalPart (some upper) env) (fun vu s₃ => ∃ a xs k tk h t, o = .ref a ∧ s₃ = ⟨h, gs, dr, t, os⟩ ∧ vu = .int ((k : Nat) : Int) tk ∧ h.IsList a (xs : List Value).toArray ∧ xs.length ≤ 1000000 ∧
      ∀ b h' k', h.get? b = none → Sub h h' → h'.get? b = some (lob (xs.take k) k') → Q (.ref b) ⟨h', gs, dr, t, os⟩) E s₁) E ⟨h, gs, dr, t, os⟩)
    (ht : ∀ o r, letTemporaryGo value o r = pure () := by intro _ _; rfl) : wpAny (model PR w) A (eval (.Subscript value (.Slice none (some upper) none p) pos) env) Q E ⟨h, gs, dr, t, os⟩ := by
  refine wpAny_Subscript_list_slice (wpAny_mono hq (fun o s₁ h₁ => ?_) fun _ _ z => z) ht
  rw [evalPart_none]
  refine wpAny_pure (wpAny_mono h₁ (fun vu s₃ h₃ => ?_) fun _ _ z => z)
  obtain ⟨a, xs, k, tk, h, t, rfl, rfl, rfl, hl, hn, hh⟩ := h₃
  refine ⟨a, xs.toArray, none, some (k : Int), rfl, hl, by rw [List.size_toArray, sizeLine_eq]; omega, .none, .int _ _, ?_⟩
  rw [slicePick_upto']
  have k1 : Sub h ((h.push { cls := .type "slice", data := .fields #[.none, .int (k : Int) tk, .none] }).push (lob (xs.take k) 0)) := fun b o e => Heap.get?_push_of_some _ (Heap.get?_push_of_some _ e)
  have fr : h.get? (h.objs.size + 1) = none := get_none_of (Nat.le_succ _)
  exact hh (h.objs.size + 1) _ 0 fr k1 (Heap.get?_push_at (by rw [Heap.size_push]) rfl)

theorem ev_cut {M : Model} {e : Expr} {s : Shared} {Q : Value → Shared → Prop} (c : wpAny M A (eval e env) (fun v s' => ∃ i tk t', v = .int i tk ∧ s' = ⟨h, gs, dr, t', os⟩) E s) (q : ∀ i tk t', Q (.int i tk) ⟨h, gs, dr, t', os⟩) : wpAny M A (eval e env) Q E s :=
  wpAny_mono c (fun _ _ z => by obtain ⟨i, tk, t', rfl, rfl⟩ := z; exact q i tk t') fun _ _ z => z

theorem c_law_row {a : Addr} {vs : List Value} {Q : Value → Shared → Prop} (R : Room A (n+1)) (sub : Sub g h) (W : Wd w g) (hl : g.IsList a vs.toArray) (hx : IntL vs) (hn : vs.length ≤ 63)
    (q : ∀ b g' h' t', h.get? b = none → Grow NoW g h g' h' → g'.get? b = none → RowAt h' b → Q (.ref b) ⟨h', gs, dr, t', os⟩) :
    wpAny (model PR w) A (call (.ref 202) [.ref a]) Q E ⟨h, gs, dr, t, os⟩ := by
  refine call_v (wr := NoW) sub W R.room (f202 w).2 rfl (by kernel_rfl) rfl rfl rfl (.of_eq rfl) rfl (noWr _) fun L h₁ t₁ E' K F => ?_
  have R' := R.deeper (callEnvC (f202 w).1 L 202)
  repeat walk_at "s"
  refine l_new F fun r h₂ F => ?_
  repeat walk_at "s"
  rename Fn _ _ _ _ _ _ _ _ _ => F
  refine for_stmt ?_
  refine l_slice0 ?_
  repeat walk_at "s"
  rw [PySem.evalPart_some]
  repeat walk_at "s"
  refine ⟨a, vs, 40, _, _, _, rfl, rfl, rfl, isl_up hl (by walk_at "up"), by omega, fun b h₃ k₃ hb sb eb => ?_⟩
  have F := F.push hb sb eb
  obtain ⟨F, hfb, le₃⟩ := F.freeze
  have lt40 : (vs.take 40).length ≤ 40 := List.length_take_le 40 vs
  refine for_k rfl F (src_list R'.hd F.sub ⟨k₃, hfb⟩) (fun i μ m g => ∃ xs k, μ = [(r, lob xs k)] ∧ IntL xs ∧ xs.length ≤ 31 * i ∧ m "row" = some (.ref r))
    ⟨[], 0, rfl, (fun _ h => by cases h), Nat.le_refl _, rfl⟩
    (fun i p μ' m' g' h' t' v hi hv inv F le => ?_) (fun μ' m' g' h' t' F le inv => ?_)
  · obtain ⟨xs, k, rfl, hxs, lxs, hm1⟩ := inv
    obtain ⟨cv, tc, rfl⟩ := hx v (List.mem_of_mem_take (List.mem_of_getElem? hv))
    refine wpAny_execs_cons (wpAny_Assign_Name (ev_cut (h := h') (gs := gs) (dr := dr) (os := os) ?_ fun fv ft t₄ => ?_) (by with_unfolding_all rfl))
    · repeat walk_at "s"
      refine ite_s (fun _ => ?_) fun _ => ?_
      · repeat walk_at "s"
        exact ⟨_, _, _, rfl, rfl⟩
      · repeat walk_at "s"
        exact ⟨_, _, _, rfl, rfl⟩
    repeat walk_at "s"
    rename Fn _ _ _ _ _ _ _ _ _ => F
    refine call_meth_b PySem.F.plainAttrs_list PySem.F.slot_list_append PySem.F.type_list_append ?_
    repeat walk_at "s"
    refine ⟨⟨r, _, rfl, (F.led _ (.tail _ (.head _))).1, rfl, rfl⟩, ?_⟩
    repeat walk_at "s"
    refine o_mod (by decide) fun _ _ => ?_
    repeat walk_at "s"
    refine l_appN [p] F (by omega) fun h₅ k₅ F => ?_
    repeat walk_at "s"
    refine o_fdiv (by decide) (by decide) fun _ _ => ?_
    repeat walk_at "s"
    rename Fn _ _ _ _ _ _ _ _ _ => F
    refine for_stmt ?_
    repeat walk_at "s"
    refine r_range (n := 30) F.sub fun r₂ g₅ h₅ t₅ x y z hr G hrr => ?_
    have le₅ := G.le
    have F := F.step0 G
    refine for_k rfl F (src_range R'.hd (by omega) hrr) (fun j μ m g => ∃ xs k f tk, μ = [p, (r, lob xs k)] ∧ IntL xs ∧ xs.length ≤ 31 * i + 1 + j ∧ m "row" = some (.ref r) ∧ m "figure" = some (.int f tk))
      ⟨_, _, _, _, rfl, ?_, by simp; omega, by walk_at "m", by walk_at "m"⟩
      (fun j p₂ μ' m' g' h' t' u hj hu inv F le => ?_) (fun μ' m' g' h' t' F le inv => ?_)
    · intro y hy
      rcases List.mem_append.mp hy with hy | hy
      · exact hxs y hy
      · rw [List.mem_singleton] at hy; exact ⟨_, _, hy⟩
    · obtain ⟨xs, k, f, tk, rfl, hxs, lxs, hm1, hm2⟩ := inv
      repeat walk_at "s"
      refine ite_s (fun _ => ?_) fun _ => ?_
      · repeat walk_at "s"
        refine call_meth_b PySem.F.plainAttrs_list PySem.F.slot_list_append PySem.F.type_list_append ?_
        repeat walk_at "s"
        refine ⟨⟨r, _, rfl, (F.led _ (.tail _ (.tail _ (.head _)))).1, rfl, rfl⟩, ?_⟩
        repeat walk_at "s"
        refine o_mod (by decide) fun _ _ => ?_
        repeat walk_at "s"
        refine l_appN [p₂, p] F (by omega) fun h₅ k₅ F => ?_
        repeat walk_at "s"
        refine o_fdiv (by decide) (by decide) fun _ _ => ?_
        repeat walk_at "s"
        rename Fn _ _ _ _ _ _ _ _ _ => F
        refine wpAny_execs_nil (wpAny_execs_nil ?_)
        refine ⟨_, _, _, _, _, rfl, F, Sub.refl, _, _, _, _, rfl, fun y hy => ?_, by simp; omega, by walk_at "m", by walk_at "m"⟩
        rcases List.mem_append.mp hy with hy | hy
        · exact hxs y hy
        · rw [List.mem_singleton] at hy; exact ⟨_, _, hy⟩
      · refine wpAny_execs_nil (wpAny_execs_nil ?_)
        exact ⟨_, _, _, _, _, rfl, F, Sub.refl, xs, k, f, tk, rfl, hxs, by omega, by walk_at "m", by walk_at "m"⟩
    · obtain ⟨xs, k, f, tk, rfl, hxs, lxs, hm1, hm2⟩ := inv
      refine wpAny_execs_nil ?_
      exact ⟨_, _, _, _, _, rfl, F, by walk_at "up", xs, k, rfl, hxs, by omega, by walk_at "m"⟩
  · obtain ⟨xs, k, rfl, hxs, lxs, hm1⟩ := inv
    have l40 : xs.length ≤ 1240 := by omega
    refine wpAny_execs_cons (wpAny_Assign_Name (l_slice0 ?_) (by with_unfolding_all rfl))
    repeat walk_at "s"
    rw [PySem.evalPart_some]
    repeat walk_at "s"
    refine ⟨r, xs, 160, _, _, _, rfl, rfl, rfl, (Lst.is (⟨k, (F.led _ (.head _)).1⟩ : Lst h' r xs)), by omega, fun b₂ h₃ k₃ hb₂ sb₂ eb₂ => ?_⟩
    have F := F.push hb₂ sb₂ eb₂
    have lt160 : (xs.take 160).length ≤ 160 := List.length_take_le 160 xs
    repeat walk_at "s"
    rename Fn _ _ _ _ _ _ _ _ _ => F
    refine call_meth_b PySem.F.plainAttrs_list PySem.F.slot_list_reverse PySem.F.type_list_reverse ?_
    repeat walk_at "s"
    refine ⟨⟨b₂, _, rfl, (F.led _ (.head _)).1, rfl, rfl⟩, ?_⟩
    repeat walk_at "s"
    refine l_rev (F.led _ (.head _)).1 (by omega) fun h₄ ⟨k₄, e₄⟩ S => ?_
    have F := F.mut1 S.extBut e₄
    repeat walk_at "s"
    obtain ⟨e1, e2, e3, e4⟩ := F.led _ (.head _)
    obtain ⟨ns, hns⟩ := intL_er (xs := (xs.take 160).reverse) fun y hy => hxs y (List.mem_of_mem_take (List.mem_reverse.mp hy))
    exact q b₂ _ _ _ e3 F.gr e2 ⟨_, k₄, ns, e1, hns, by rw [List.length_reverse]; omega⟩
end
end
section
set_option maxRecDepth 100000
set_option maxHeartbeats 4000000
open PySem PySem.W PySem.Calls PyProof.Rows
open PySem.SeqAt (EqAt RcAt)
def lawNum (ns : List Int) (count : Nat) : Option (List Int) :=
  if (ns.filter fun n => decide (n < 0)) ≠ [] ∧ (ns.filter fun n => decide (n > 0)) ≠ [] then none
  else if (ns.filter fun n => decide (n < 0)) ≠ [] then some (((List.range count).filter fun (p : Nat) => !(ns.filter fun n => decide (n < 0)).contains (-1 - (p : Int))).map fun (p : Nat) => (p : Int))
  else some ((ns.filter fun n => decide (n > 0)).map fun n => n - 1)
theorem er_nil_iff {α : Type} {xs : List Value} {ts : List α} {f : α → Value} (e : xs.map er = ts.map f) : (!decide (xs.map er = ([] : List Value).map er)) = decide (ts ≠ []) := by
  rw [e]
  cases ts <;> simp

section
variable {w : World} {A : Around} {E : Value → Shared → Prop} {env : Env} {g h g₀ h₀ g' h' : Heap} {gs : Array GenState} {dr : Drawn} {t : Nat} {os : OsState} {m : Str → Option Value} {n : Nat} {wr : Addr → Prop} {μ : List (Addr × Obj)}

theorem va_lev {lv cv : Value} : valueAt [(("levels" : Str), lv), (("class" : Str), cv)] ("levels" : Str) = some lv := by simp [valueAt]
theorem va_cls {lv cv : Value} : valueAt [(("levels" : Str), lv), (("class" : Str), cv)] ("class" : Str) = some cv := by
  simp [valueAt, show ¬ (Str.ofString "levels" = Str.ofString "class") by decide]

theorem c_law_told {v : Value} {cs : List (Option Int)} {lev : List Str} {Q : Value → Shared → Prop} (R : Room A (n+1)) (sub : Sub g h) (W : Wd w g) (hf : Fac w g v cs lev) (hok : OkCs cs lev) (hn : lev.length ≤ 100) (hcn : cs.length ≤ 100)
    (q : ∀ D g' h' t' ys, Grow NoW g h g' h' → Lst g' D ys → ys.map er = (told cs lev).map eT → Q (.ref D) ⟨h', gs, dr, t', os⟩) :
    wpAny (model PR w) A (call (.ref 219) [v]) Q E ⟨h, gs, dr, t, os⟩ := by
  obtain ⟨ys, lv, cv, ls, cls, ⟨a, attrs, hv, hl, ha⟩, eys, ⟨alv, atl, hvl, hllv, hal⟩, els, ⟨ac, atc, hvc, hlc, hac⟩, ecl⟩ := hf
  have len := len_map els
  have lenc := len_map eys
  obtain ⟨da, rfl, Da⟩ := ha
  refine call_v (wr := NoW) sub W R.room (f219 w).2 rfl (by kernel_rfl) rfl rfl rfl (.of_eq rfl) rfl (noWr _) fun L h₁ t₁ E' _ F => ?_
  have R' := R.deeper (callEnvC (f219 w).1 L 219)
  repeat walk_at "s"
  refine vec_kind F.Wh (hv.up (by walk_at "up")) fun _ _ => ?_
  repeat walk_at "s"
  refine ite_f (by decide) ?_
  repeat walk_at "s"
  refine vec_attrs F.Wh (hv.up (by walk_at "up")) fun _ => ?_
  repeat walk_at "s"
  refine d_item (knd := sK w) (k := ("class" : Str)) (Da.up (by walk_at "up")).1 (by simp [sK, PySem.strKind, Value.isStrOf]) va_cls (fun _ => ?_) (by with_unfolding_all rfl)
  repeat walk_at "s"
  refine vec_items F.Wh (hvc.up (by walk_at "up")) fun _ => ?_
  repeat walk_at "s"
  refine l_display ?_
  repeat walk_at "s"
  refine ⟨by simp, _, _, _, rfl, F.sub, fun a₂ g₂ h₂ ha₂ G l₂ => ?_⟩
  have F := F.step0 G
  have le₂ := G.le
  refine l_ne R' (hlc.up (by walk_at "up")) (l₂.up F.sub) (flats (f := eS) (ts := [("factor" : Str)]) (fun _ _ => flat_eS) ecl) (by simp [flat]) ?_
  repeat walk_at "s"
  refine ite_f ?_ ?_
  · rw [ecl]; simp [er, eS]
  repeat walk_at "s"
  refine ite_f rfl ?_
  refine wpAny_execs_nil ?_
  repeat walk_at "s"
  refine comp_expr rfl ?_
  repeat walk_at "s"
  refine vec_items F.Wh (hv.up (by walk_at "up")) fun _ => ?_
  refine comp_gen rfl (fun _ => rfl) rfl F (src_list R'.hd F.sub (hl.up (by walk_at "up"))) (by omega) cs lenc.symm (fun _ => true) (fun o => eT (o.map fun i => lev.getD (i - 1).toNat "")) (fun i o' C g₁ h₁ t₁ u E' hap hP X G => ?_) fun D g₃ h₃ t₃ nms hD F leD lD eD => ?_
  · obtain ⟨o'', ho', e⟩ := map_at eys hP
    rw [hap] at ho'; cases ho'
    refine tests_nil ⟨rfl, _, _, _, rfl, Grow.refl X.sub, fun _ => ?_⟩
    repeat walk_at "s"
    cases o' with
    | none =>
      obtain rfl := er_none e
      refine ite_t rfl ?_
      repeat walk_at "s"
      exact ⟨rfl, _, _, _, rfl, Grow.refl X.sub⟩
    | some ic =>
      obtain ⟨tk, rfl⟩ := er_int e
      refine ite_f rfl ?_
      repeat walk_at "s"
      refine vec_attrs X.Wh (hv.up (by walk_at "up")) fun _ => ?_
      repeat walk_at "s"
      refine d_item (knd := sK w) (k := ("levels" : Str)) (Da.up (by walk_at "up")).1 (by simp [sK, PySem.strKind, Value.isStrOf]) va_lev (fun _ => ?_) (by with_unfolding_all rfl)
      repeat walk_at "s"
      refine vec_items X.Wh (hvl.up (by walk_at "up")) fun _ => ?_
      repeat walk_at "s"
      obtain ⟨b1, b2⟩ := hok ic (List.mem_of_getElem? hap)
      obtain ⟨sv, hsv⟩ : ∃ s, lev[(ic - 1).toNat]? = some s := ⟨lev[(ic - 1).toNat]'(by omega), by rw [List.getElem?_eq_getElem]⟩
      obtain ⟨ov, hov, eov⟩ := at_map els hsv
      refine l_item (i := (ic - 1).toNat) (hllv.up (by walk_at "up")) (by omega) hov (by omega) ?_ (by with_unfolding_all rfl)
      refine ⟨?_, _, _, _, rfl, Grow.refl X.sub⟩
      rw [eov]
      show eS sv = Value.str (lev.getD (ic - 1).toNat "") 0
      rw [List.getD_eq_getElem?_getD, hsv]; rfl
  rw [List.filter_eq_self.mpr (fun _ _ => rfl)] at eD
  exact q D _ _ _ nms F.gr lD (by rw [eD]; exact mm (fun o : Option Int => o.map fun i => lev.getD (i - 1).toNat "") eT cs)

theorem c_law_numbered {a : Addr} {xs : List Value} {ns : List Int} {count : Nat} {tk : Tok} {Q : Value → Shared → Prop} (R : Room A (n+1)) (sub : Sub g h) (W : Wd w g) (hl : Lst g a xs) (hx : xs.map er = ns.map eI) (hn : ns.length ≤ 100) (hc : count ≤ 100)
    (q : ∀ b g' h' t' ys sp, Grow NoW g h g' h' → Lst g' b ys → ys.map er = sp.map eI → lawNum ns count = some sp → Q (.ref b) ⟨h', gs, dr, t', os⟩)
    (qs : ∀ g' h' t' tk, Grow NoW g h g' h' → lawNum ns count = none → Q (.str mixMsg tk) ⟨h', gs, dr, t', os⟩) :
    wpAny (model PR w) A (call (.ref 224) [.ref a, .int count tk]) Q E ⟨h, gs, dr, t, os⟩ := by
  refine call_v (wr := NoW) sub W R.room (f224 w).2 rfl (by kernel_rfl) rfl rfl rfl (.of_eq rfl) rfl (noWr _) fun L h₁ t₁ E' _ F => ?_
  have R' := R.deeper (callEnvC (f224 w).1 L 224)
  have len := len_map hx
  repeat walk_at "s"
  refine comp_expr rfl ?_
  repeat walk_at "s"
  refine comp_gen rfl (fun _ => rfl) rfl F (src_list R'.hd F.sub (hl.up (by walk_at "up"))) (by omega) ns len.symm (fun n => decide (n < 0)) eI (fun i a C g₁ h₁ t₁ v E' ha hP X G => ?_) fun D g₂ h₂ t₂ bw hD F le₂ lB eB => ?_
  · obtain ⟨a', ha', e⟩ := map_at hx hP
    rw [ha] at ha'; cases ha'
    obtain ⟨tk, rfl⟩ := er_int e
    refine tests_one ?_
    repeat walk_at "s"
    refine ⟨rfl, _, _, _, rfl, Grow.refl X.sub, fun _ => ?_⟩
    repeat walk_at "s"
    exact ⟨rfl, _, _, _, rfl, Grow.refl X.sub⟩
  repeat walk_at "s"
  rename Fn _ _ _ _ _ _ _ _ _ => F
  refine comp_assign rfl rfl ?_
  repeat walk_at "s"
  refine comp_gen_a rfl (fun _ => rfl) rfl rfl F (src_list R'.hd F.sub (hl.up (by walk_at "up"))) (by omega) ns len.symm (fun n => decide (n > 0)) eI (fun i a C g₁ h₁ t₁ v E' ha hP X G => ?_) fun D₂ g₃ h₃ t₃ aw hD₂ F le₃ lA eA => ?_
  · obtain ⟨a', ha', e⟩ := map_at hx hP
    rw [ha] at ha'; cases ha'
    obtain ⟨tk, rfl⟩ := er_int e
    refine tests_one ?_
    repeat walk_at "s"
    refine ⟨rfl, _, _, _, rfl, Grow.refl X.sub, fun _ => ?_⟩
    repeat walk_at "s"
    exact ⟨rfl, _, _, _, rfl, Grow.refl X.sub⟩
  have lenB := len_map eB
  have lenA := len_map eA
  have bB : (ns.filter fun n => decide (n < 0)).length ≤ 100 := Nat.le_trans (List.length_filter_le _ _) hn
  have bA : (ns.filter fun n => decide (n > 0)).length ≤ 100 := Nat.le_trans (List.length_filter_le _ _) hn
  -- the test of below
  have tb : ∀ {g₄ h₄ : Heap} {Q' : Value → Shared → Prop} {E₂ : Value → Shared → Prop} {t₄ : Nat} {b : Addr}, Sub g₃ g₄ → Sub g₄ h₄ → Lst g₄ b [] → (Q' (.bool (decide ((ns.filter fun n => decide (n < 0)) ≠ []))) ⟨h₄, gs, dr, t₄, os⟩) → wpAny (model PR w) (A.deeper (callEnvC (f224 w).1 L 224)) (compareOp .NotEq (.ref D) (.ref b)) Q' E₂ ⟨h₄, gs, dr, t₄, os⟩ := by
    intro g₄ h₄ Q' E₂ t₄ b s1 s2 l4 q'
    refine l_ne R' ((lB.up (le₃.trans s1)).up s2) (l4.up s2) (flats (f := eI) (fun _ _ => flat_eI) eB) (by simp) ?_
    rw [er_nil_iff eB]; exact q'
  repeat walk_at "s"
  refine l_display ?_
  repeat walk_at "s"
  refine ⟨by simp, _, _, _, rfl, F.sub, fun b₄ g₄ h₄ hb₄ G l₄ => ?_⟩
  have F := F.step0 G
  have le₄ := G.le
  refine tb (by walk_at "up") F.sub l₄ ?_
  repeat walk_at "s"
  refine ite_s (fun hb => ?_) fun hb => ?_
  · have hB : (ns.filter fun n => decide (n < 0)) ≠ [] := by simpa using hb
    repeat walk_at "s"
    refine l_display ?_
    repeat walk_at "s"
    refine ⟨by simp, _, _, _, rfl, F.sub, fun b₅ g₅ h₅ hb₅ G l₅ => ?_⟩
    have F := F.step0 G
    have le₅ := G.le
    refine l_ne R' (lA.up (by walk_at "up")) (l₅.up F.sub) (flats (f := eI) (fun _ _ => flat_eI) eA) (by simp) ?_
    rw [er_nil_iff eA]
    repeat walk_at "s"
    refine ite_s (fun hb => ?_) fun hb => ?_
    · have hA : (ns.filter fun n => decide (n > 0)) ≠ [] := by simpa using hb
      repeat walk_at "s"
      refine ite_t rfl ?_
      repeat walk_at "s"
      exact qs _ _ _ _ F.gr (by unfold lawNum; rw [if_pos ⟨hB, hA⟩])
    · have hA : ¬ (ns.filter fun n => decide (n > 0)) ≠ [] := by simpa using hb
      refine ite_f rfl ?_
      refine wpAny_execs_nil ?_
      repeat walk_at "s"
      refine l_display ?_
      repeat walk_at "s"
      refine ⟨by simp, _, _, _, rfl, F.sub, fun b₆ g₆ h₆ hb₆ G l₆ => ?_⟩
      have F := F.step0 G
      have le₆ := G.le
      refine tb (by walk_at "up") F.sub l₆ ?_
      repeat walk_at "s"
      refine ite_t (by simpa using hB) ?_
      repeat walk_at "s"
      refine comp_expr rfl ?_
      repeat walk_at "s"
      refine r_range F.sub fun r g₅ h₅ t₅ x y z hr G hrr => ?_
      have F := F.step0 G
      have le₇ := G.le
      refine comp_gen rfl (fun _ => rfl) rfl F (src_range R'.hd (by omega) hrr) (by omega) (List.range count) (by simp) (fun (p : Nat) => !(ns.filter fun n => decide (n < 0)).contains (-1 - (p : Int))) (fun (p : Nat) => eI (p : Int)) (fun i a C g₁ h₁ t₁ v E' ha hP X G => ?_) fun D₃ g₆ h₆ t₆ ys hD F le₆ lD eD => ?_
      · obtain ⟨tv, rfl⟩ := hP
        have hia : a = i := by have := List.getElem?_eq_some_iff.mp ha; obtain ⟨_, e⟩ := this; simpa using e.symm
        subst hia
        refine tests_one ?_
        repeat walk_at "s"
        refine l_notIn (lB.up (by walk_at "up")) (flats (f := eI) (fun _ _ => flat_eI) eB) rfl ?_
        repeat walk_at "s"
        refine ⟨?_, _, _, _, rfl, Grow.refl X.sub, fun _ => ?_⟩
        · rw [show er (Value.int (-1 - (a : Int)) _) = Value.int (-1 - (a : Int)) 0 from rfl, any_eI eB]
        · repeat walk_at "s"
          exact ⟨rfl, _, _, _, rfl, Grow.refl X.sub⟩
      refine q D₃ _ _ _ ys _ F.gr lD (by rw [eD]; exact mm (fun (p : Nat) => (p : Int)) eI _) ?_
      unfold lawNum
      rw [if_neg (fun h => hA h.2), if_pos hB]
  · have hB : ¬ (ns.filter fun n => decide (n < 0)) ≠ [] := by simpa using hb
    refine ite_f rfl ?_
    refine wpAny_execs_nil ?_
    repeat walk_at "s"
    refine l_display ?_
    repeat walk_at "s"
    refine ⟨by simp, _, _, _, rfl, F.sub, fun b₆ g₆ h₆ hb₆ G l₆ => ?_⟩
    have F := F.step0 G
    have le₆ := G.le
    refine tb (by walk_at "up") F.sub l₆ ?_
    repeat walk_at "s"
    refine ite_f (by simpa using hB) ?_
    refine wpAny_execs_nil ?_
    repeat walk_at "s"
    refine comp_expr rfl ?_
    repeat walk_at "s"
    refine comp_gen rfl (fun _ => rfl) rfl F (src_list R'.hd F.sub (lA.up (by walk_at "up"))) (by omega) (ns.filter fun n => decide (n > 0)) lenA.symm (fun _ => true) (fun n => eI (n - 1)) (fun i a C g₁ h₁ t₁ v E' ha hP X G => ?_) fun D₃ g₇ h₇ t₇ ys hD F le₇ lD eD => ?_
    · obtain ⟨a', ha', e⟩ := map_at eA hP
      rw [ha] at ha'; cases ha'
      obtain ⟨tk, rfl⟩ := er_int e
      refine tests_nil ⟨rfl, _, _, _, rfl, Grow.refl X.sub, fun _ => ?_⟩
      repeat walk_at "s"
      exact ⟨rfl, _, _, _, rfl, Grow.refl X.sub⟩
    rw [List.filter_eq_self.mpr (fun _ _ => rfl)] at eD
    refine q D₃ _ _ _ ys _ F.gr lD (by rw [eD]; exact mm (fun n : Int => n - 1) eI _) ?_
    unfold lawNum
    rw [if_neg (fun h => hB h.1), if_neg hB]
end
end
section
set_option maxRecDepth 100000
set_option maxHeartbeats 4000000
open PySem PySem.W PySem.Calls PyProof.Rows
open PySem.SeqAt (EqAt RcAt)
theorem str_nil (s : Str) : s ++ (Str.ofString "") = s := by
  obtain ⟨x⟩ := s
  show Str.mk (x ++ #[]) = Str.mk x
  rw [Array.append_empty]
theorem str_len (a b : Str) : (a ++ b).length = a.length + b.length := by show (a.cps ++ b.cps).size = _; simp [Str.length]
theorem countP_eS {xs : List Value} {ss : List Str} {s : Str} (e : xs.map er = ss.map eS) : xs.countP (fun y => er y == Value.str s 0) = ss.count s := by
  have h1 : xs.countP (fun y => er y == Value.str s 0) = (xs.map er).countP (· == Value.str s 0) := by rw [List.countP_map]; rfl
  rw [h1, e, List.countP_map]
  have : ((fun x => x == Value.str s 0) ∘ eS) = fun t => t == s := by funext t; exact eS_beq
  rw [this]; rfl

section
variable {w : World} {A : Around} {E : Value → Shared → Prop} {env : Env} {g h g₀ h₀ g' h' : Heap} {gs : Array GenState} {dr : Drawn} {t : Nat} {os : OsState} {m : Str → Option Value} {n : Nat} {wr : Addr → Prop} {μ : List (Addr × Obj)}

theorem ev_cutS {M : Model} {e : Expr} {s : Shared} {x : Str} {Q : Value → Shared → Prop} (_ : Fn w wr g₀ h₀ env μ m g h) (c : wpAny M A (eval e env) (fun v s' => ∃ tk t', v = .str x tk ∧ s' = ⟨h, gs, dr, t', os⟩) E s) (q : ∀ tk t', Q (.str x tk) ⟨h, gs, dr, t', os⟩) : wpAny M A (eval e env) Q E s :=
  wpAny_mono c (fun _ _ z => by obtain ⟨tk, t', rfl, rfl⟩ := z; exact q tk t') fun _ _ z => z

theorem c_law_heads {a : Addr} {xs : List Value} {ss : List Str} {Q : Value → Shared → Prop} (R : Room A (n+2)) (sub : Sub g h) (W : Wd w g) (hl : Lst g a xs) (hx : xs.map er = ss.map eS) (hn : ss.length ≤ 100) (hlen : ∀ s ∈ ss, s.length ≤ 100)
    (q : ∀ b g' h' t' ys, Grow NoW g h g' h' → Lst g' b ys → ys.map er = (headsL ss).map eS → Q (.ref b) ⟨h', gs, dr, t', os⟩) :
    wpAny (model PR w) A (call (.ref 231) [.ref a]) Q E ⟨h, gs, dr, t, os⟩ := by
  refine call_v (wr := NoW) sub W R.room (f231 w).2 rfl (by kernel_rfl) rfl rfl rfl (.of_eq rfl) rfl (noWr _) fun L h₁ t₁ E' _ F => ?_
  have R' := R.deeper (callEnvC (f231 w).1 L 231)
  have len := len_map hx
  repeat walk_at "s"
  refine l_new F fun f h₃ F => ?_
  repeat walk_at "s"
  rename Fn _ _ _ _ _ _ _ _ _ => F
  refine for_stmt ?_
  repeat walk_at "s"
  refine l_len (hl.up (by walk_at "up")) (by omega) fun _ _ => ?_
  repeat walk_at "s"
  refine r_range F.sub fun r g₅ h₅ t₅ x y z hr G hrr => ?_
  have le₅ := G.le
  have F := F.step0 G
  refine for_k rfl F (src_range R'.hd (by omega) hrr) (fun i μ m g => ∃ fxs k, μ = [(f, lob fxs k)] ∧ fxs.length = i ∧ fxs.map er = ((List.range i).map (hAt ss)).map eS ∧ m "told" = some (.ref a) ∧ m "found" = some (.ref f))
    ⟨[], 0, rfl, rfl, rfl, rfl, rfl⟩
    (fun i p μ' m' g' h' t' v hi hv inv F le => ?_) (fun μ' m' g' h' t' F le inv => ?_)
  · obtain ⟨fxs, k, rfl, lf, ef, hm1, hm2⟩ := inv
    obtain ⟨tu, rfl⟩ := hv
    obtain ⟨s, hss⟩ : ∃ s, ss[i]? = some s := ⟨ss[i]'(by omega), by rw [List.getElem?_eq_getElem]⟩
    obtain ⟨sv, hsv, esv⟩ := at_map hx hss
    obtain ⟨tk, rfl⟩ := er_str esv
    have hcount : (ss.take i).count s ≤ 100 := Nat.le_trans (List.count_le_length ..) (by rw [List.length_take]; omega)
    have hslen := hlen s (List.mem_of_getElem? hss)
    have hget : ss.getD i "" = s := by simp [List.getD, hss]
    repeat walk_at "s"
    refine call_meth_b PySem.F.plainAttrs_list PySem.F.slot_list_count PySem.F.type_list_count ?_
    refine l_slice ?_
    repeat walk_at "s"
    rw [PySem.evalPart_some]
    repeat walk_at "s"
    refine ⟨a, xs, i, _, _, _, _, rfl, rfl, rfl, F.sub, (hl.up (by walk_at "up") : Lst h' a xs).is, by omega, fun b g₆ h₆ k₆ hb G₆ e₆ => ?_⟩
    have F := F.step0 G₆
    have le₆ := G₆.le
    have l₆ : Lst g₆ b (xs.take i) := ⟨k₆, e₆⟩
    refine ⟨(l₆.up F.sub).ty, ?_⟩
    repeat walk_at "s"
    refine l_item (hl.up (by walk_at "up")) rfl hsv (by omega) ?_ (by with_unfolding_all rfl)
    repeat walk_at "s"
    have etk : (xs.take i).map er = (ss.take i).map eS := by rw [List.map_take, hx, List.map_take]
    refine l_count (l₆.up F.sub) (flats (f := eS) (fun _ _ => flat_eS) etk) rfl fun _ _ => ?_
    rw [show er (Value.str s tk) = Value.str s 0 from rfl, countP_eS etk]
    repeat walk_at "s"
    rename Fn _ _ _ _ _ _ _ _ _ => F
    refine call_meth_b PySem.F.plainAttrs_list PySem.F.slot_list_append PySem.F.type_list_append ?_
    repeat walk_at "s"
    refine ⟨⟨f, _, rfl, (F.led _ (.tail _ (.head _))).1, rfl, rfl⟩, ?_⟩
    refine args_cons (ev_cutS (x := hAt ss i) F (gs := gs) (dr := dr) (os := os) ?_ fun tk₉ t₉ => ?_) (by with_unfolding_all rfl)
    · repeat walk_at "s"
      refine l_item (hl.up (by walk_at "up")) rfl hsv (by omega) ?_ (by with_unfolding_all rfl)
      repeat walk_at "s"
      refine ite_s (fun hb => ?_) fun hb => ?_
      · have h0 : (ss.take i).count s = 0 := by simpa using hb
        repeat walk_at "s"
        refine o_sadd (by show s.length + 0 ≤ 1000; omega) fun _ _ => ?_
        have e : s ++ (Str.ofString "") = hAt ss i := by unfold hAt headOf; rw [hget, if_pos h0, str_nil]
        exact ⟨_, _, congrArg (Value.str · _) e, rfl⟩
      · have h0 : ¬ (ss.take i).count s = 0 := by simpa using hb
        repeat walk_at "s"
        refine o_str (by omega) (by omega) fun _ _ => ?_
        have hsl := strN_len (c := (ss.take i).count s) (by omega)
        have l1 : (Str.ofString ".").length = 1 := rfl
        refine o_sadd (by unfold strN at hsl; omega) fun _ _ => ?_
        repeat walk_at "s"
        refine o_sadd (by rw [str_len]; unfold strN at hsl; omega) fun _ _ => ?_
        have e : s ++ ((Str.ofString ".") ++ (Str.ofString (toString (((ss.take i).count s : Nat) : Int)))) = hAt ss i := by unfold hAt headOf; rw [hget, if_neg h0]; rfl
        exact ⟨_, _, congrArg (Value.str · _) e, rfl⟩
    · repeat walk_at "s"
      refine l_appN [p] F (by omega) fun h₅ k₅ F => ?_
      refine wpAny_execs_nil ?_
      refine ⟨_, _, _, _, _, rfl, F, by walk_at "up", _, k₅, rfl, by simp [lf], ?_, by walk_at "m", by walk_at "m"⟩
      rw [List.map_append, ef, List.range_succ]
      simp [er, eS]
  · obtain ⟨fxs, k, rfl, lf, ef, hm1, hm2⟩ := inv
    obtain ⟨F, hd, le₆⟩ := F.freeze
    repeat walk_at "s"
    refine q f _ _ _ fxs F.gr ⟨k, hd⟩ ?_
    rw [ef, len]; rfl
end
end
section
set_option maxRecDepth 100000
set_option maxHeartbeats 4000000
open PySem PySem.W PySem.Calls PyProof.Rows
open PySem.SeqAt (EqAt RcAt)
section
variable {w : World} {A : Around} {E : Value → Shared → Prop} {env : Env} {g h g₀ h₀ g' h' : Heap} {gs : Array GenState} {dr : Drawn} {t : Nat} {os : OsState} {m : Str → Option Value} {n : Nat} {wr : Addr → Prop} {μ : List (Addr × Obj)}

theorem comp_genX {elt iter : Expr} {x : Str} {px : Pos} {ifs : List Expr} {scope : Scope} {pos : Pos} {Q : Value → Shared → Prop} {xv : Value} {P : Nat → Value → Prop} (hok : compOk scope env = true)
    (hx : ∀ C, (isLocal (cenvOf scope env C) x || isCellN (cenvOf scope env C) x) = true) (hxc : (clOf env scope.names []).lookup x = none) (X : Ex w env m g h) (S : Src PR w A g h xv n P) (hsz : n ≤ 1000000)
    {α : Type} (ts : List α) (hn : ts.length = n) (p : α → Bool) (f : α → Value)
    (T : ∀ i a C g₁ h₁ t₁ v E', ts[i]? = some a → P i v → Ex w (cenvOf scope env C) (upd (capt (clOf env scope.names []) m) x v) g₁ h₁ → Grow NoW g h g₁ h₁ →
      wpAny (model PR w) A (testsOf ifs (cenvOf scope env C)) (fun ok s₂ => ok = p a ∧ ∃ g₂ h₂ t₂, s₂ = ⟨h₂, gs, dr, t₂, os⟩ ∧ Grow NoW g₁ h₁ g₂ h₂ ∧ (p a = true → wpAny (model PR w) A (eval elt (cenvOf scope env C))
        (fun y s₃ => er y = f a ∧ ∃ g₃ h₃ t₃, s₃ = ⟨h₃, gs, dr, t₃, os⟩ ∧ Grow NoW g₂ h₂ g₃ h₃) E' s₂)) E' ⟨h₁, gs, dr, t₁, os⟩)
    (hQ : ∀ D g' h' t' ys, h.get? D = none → Grow NoW g h g' h' → Lst g' D ys → ys.map er = (ts.filter p).map f → Q (.ref D) ⟨h', gs, dr, t', os⟩) :
    CompGoal PR w A E env (.ListComp elt [⟨.Name x px, iter, ifs, 0⟩] scope pos) scope none Q xv ⟨h, gs, dr, t, os⟩ := by
  refine comp_k (wrs := NoW) (Ms := fun _ _ => True) (Y := fun i _ y => ∃ a, ts[i]? = some a ∧ er y = f a) (p := fun i => (ts[i]?).any p) hok hx hxc X S (by rw [sizeLine_eq]; omega) (fun _ q => q.elim) trivial (fun _ _ _ _ _ => trivial) (fun _ _ _ _ q _ => q) ⟨fun i C g₁ h₁ t₁ v E' hi hP X G _ _ => ?_⟩ fun D g' h' t' ys hD G lD _ hp _ => hQ D g' h' t' ys hD G lD (paired_map hn hp)
  obtain ⟨a, ha⟩ : ∃ a, ts[i]? = some a := ⟨ts[i], by simp [hn, hi]⟩
  refine wpAny_mono (T i a C g₁ h₁ t₁ v E' ha hP X G) (fun ok s₂ q => ?_) fun _ _ e => e
  obtain ⟨rfl, g₂, h₂, t₂, rfl, G₂, q⟩ := q
  simp only [ha, Option.any_some]
  by_cases hp : p a = true
  · rw [if_pos hp]
    refine ⟨hp, wpAny_mono (q hp) (fun y s₃ z => ?_) fun _ _ e => e⟩
    obtain ⟨e, g₃, h₃, t₃, rfl, G₃⟩ := z
    exact ⟨g₃, h₃, t₃, rfl, G₂.trans G₃, ⟨a, rfl, e⟩, trivial⟩
  · rw [if_neg hp]
    exact ⟨by simpa using hp, g₂, h₂, t₂, rfl, G₂, trivial⟩

theorem in_cell {l tup : Addr} {kind : Str} {x : Value} {b : Bool} {ta tb : Tok} {Q : Value → Shared → Prop} (R : Room A (n+1)) (hl : Lst h l [.none, .ref tup]) (ht : h.IsTuple tup #[.int 0 ta, .int 0 tb]) (c : Cell h kind x b) (hne : ∀ r, x = .ref r → r ≠ tup) (q : Q (.bool b) ⟨h, gs, dr, t, os⟩) :
    wpAny (model PR w) A (compareOp .In x (.ref l)) Q E ⟨h, gs, dr, t, os⟩ := by
  have hu := R.in1.units
  have key : ∀ e : Value → Bool, (∀ y ∈ [Value.none, .ref tup].toArray, EqAt A.in1 ⟨h, gs, dr, t, os⟩ y x (e y)) → (e .none || e (.ref tup)) = b → wpAny (model PR w) A (compareOp .In x (.ref l)) Q E ⟨h, gs, dr, t, os⟩ := fun e he hb =>
    PySem.SeqAt.in_listAt (s := ⟨h, gs, dr, t, os⟩) e hl.is he (by have : [Value.none, .ref tup].toArray.any e = b := by simpa using hb
                                                                   rw [this]; exact q)
  rcases c with ⟨rfl, rfl⟩ | ⟨k, tk, rfl, hk, rfl⟩ | ⟨r, p, q', tp, tq, rfl, hk, hr, rfl⟩
  · refine key (fun y => y == .none) (fun y hy => ?_) (by simp)
    rcases (by simpa using hy : y = .none ∨ y = .ref tup) with rfl | rfl
    · exact EqAt.same _
    · exact EqAt.tuple_none (s := ⟨h, gs, dr, t, os⟩) ht hu
  · refine key (fun _ => false) (fun y hy => ?_) rfl
    rcases (by simpa using hy : y = .none ∨ y = .ref tup) with rfl | rfl
    · exact EqAt.none_int _ _
    · exact EqAt.tuple_int (s := ⟨h, gs, dr, t, os⟩) _ _ ht hu
  · refine key (fun y => if y = .none then false else ((0 : Int) == p && (0 : Int) == q')) (fun y hy => ?_) ?_
    · rcases (by simpa using hy : y = .none ∨ y = .ref tup) with rfl | rfl
      · exact EqAt.none_tuple (s := ⟨h, gs, dr, t, os⟩) hr hu
      · exact EqAt.of_refs (Ne.symm (hne r rfl)) (rc_pair (s := ⟨h, gs, dr, t, os⟩) ht hr hu)
    · rw [if_pos rfl, if_neg (by simp), Bool.false_or, Bool.beq_comm (a := (0:Int)) (b := p), Bool.beq_comm (a := (0:Int)) (b := q')]

theorem get_exc {x dx : Addr} {tp tb : Value} {es : List DictEntry} {nn : Nat} {v : Value} {ex : Bool} {Q : Value → Shared → Prop} (K : (KP w).In h) (ob : h.get? x = some (excObj tp tb (some dx))) (di : h.get? dx = some (dictOf es nn)) (hl : getL "message" es = some (some v)) (hv : handedIn v = true) (q : Q v ⟨h, gs, dr, t + 1, os⟩) :
    wpAny (model PR w) A (getAttr (.ref x) "message" ex) Q E ⟨h, gs, dr, t, os⟩ := by
  have I : InstAt h x (excObj tp tb (some dx)) 75 (some (dictOf es nn)) := ⟨ob, rfl, rfl, di⟩
  have L0 := I.type (M := model PR w)
  have L1 := looks_findIn (M := model PR w) K (show findIn (KP w) (.ref 75) "__getattribute__" = some (some (.builtin "BaseException.__getattribute__")) by kernel_rfl)
  have L2 := looks_findIn (M := model PR w) K (show findIn (KP w) (.ref 75) "__getattr__" = some none by kernel_rfl)
  have L3 := looks_find (M := model PR w) K I (findObj_own (K := KP w) (C := 75) (name := "message") (by kernel_rfl) (show findIn (KP w) (.ref 75) "message" = some none by kernel_rfl) rfl hl)
  have L4 : Looks (model PR w) h (isSubtype (.ref 75) (.type "BaseException")) true := looks_subIn K (by kernel_rfl)
  unfold getAttr getAttrBy
  refine wpAny_bind (wpAny_mkText (wpAny_holding (wpAny_bind (L0.at (wpAny_bind (L1.at ?_))))))
  dsimp only
  rw [if_neg (by decide)]
  unfold getAttrByItsOwn hookBefore callGetattribute boundAndCalled
  rw [if_pos (show onTheHeap (.ref 75) = true from rfl), if_neg (show ¬ ((ex && onTheHeap (Value.builtin "BaseException.__getattribute__")) = true) by cases ex <;> decide), PySem.F.attrBase_Exception.ga.bind]
  refine wpAny_bind (L2.at ?_)
  dsimp only
  repeat (first | assumption | wp_step)
  show codeAny _ A (.call (.builtin "BaseException.__getattribute__") ⟨[.ref x, .str "message" t], []⟩) _ _
  have L5 : Looks (model PR w) h (isInstance (.ref x) (.type "BaseException")) true := L0.andThen L4
  refine codeAny_call_builtin PySem.F.attrBase_Exception.ga.plain PySem.F.entry_bexc_ga ?_
  have hk : builtinKind "BaseException.__getattribute__" = some .slot := by decide +kernel
  have hsplit : splitId "BaseException.__getattribute__" = some ("BaseException", "__getattribute__") := by decide +kernel
  have hargs := PySem.F.args_bexc_ga (.ref x) (.str "message" t)
  simp only [checkBuiltinCall, hk, hsplit]
  refine wpAny_bind (L5.at ?_)
  repeat (first | assumption | with_reducible refine L0.at ?_ | with_reducible refine L3.at ?_ | wp_step)
  show wpAny _ _ (handedOut v) _ _ _
  rw [handedOut_of hv]
  exact wpAny_pure q

theorem c_law_asked_exc {e : Addr} {s1 s2 : Str} {tk1 tk2 : Tok} {Q : Value → Shared → Prop} (R : Room A (n+1)) (sub : Sub g h) (W : Wd w g) (hx : ExcF g e (.str s1 tk1))
    (q : ∀ g' h' t', Grow NoW g h g' h' → Q (.bool (s1 == s2)) ⟨h', gs, dr, t', os⟩) :
    wpAny (model PR w) A (call (.ref 243) [.ref e, .str s2 tk2]) Q E ⟨h, gs, dr, t, os⟩ := by
  refine call_v (wr := NoW) sub W R.room (f243 w).2 rfl (by kernel_rfl) rfl rfl rfl (.of_eq rfl) rfl (noWr _) fun L h₁ t₁ E' _ F => ?_
  have R' := R.deeper (callEnvC (f243 w).1 L 243)
  obtain ⟨dx, tp, tb, ob, es, nn, di, ks, hm⟩ := hx.up F.sub
  repeat walk_at "s"
  refine isi_call F.Wh.K (fun M => (Looks.ld ob).andThen .now) (by kernel_rfl) (by intro q; cases q) ?_
  refine wpAny_truthy_bool ?_
  refine ite_t rfl ?_
  repeat walk_at "s"
  refine get_exc F.Wh.K ob di hm rfl ?_
  repeat walk_at "s"
  exact q _ _ _ F.gr

theorem c_law_asked_lst {a b : Addr} {xs ys : List Value} {Q : Value → Shared → Prop} (R : Room A (n+1)) (sub : Sub g h) (W : Wd w g) (ha : Lst g a xs) (hb : Lst g b ys) (hf : ∀ y ∈ xs, flat y = true) (hg : ∀ y ∈ ys, flat y = true)
    (q : ∀ g' h' t', Grow NoW g h g' h' → Q (.bool (decide (xs.map er = ys.map er))) ⟨h', gs, dr, t', os⟩) :
    wpAny (model PR w) A (call (.ref 243) [.ref a, .ref b]) Q E ⟨h, gs, dr, t, os⟩ := by
  refine call_v (wr := NoW) sub W R.room (f243 w).2 rfl (by kernel_rfl) rfl rfl rfl (.of_eq rfl) rfl (noWr _) fun L h₁ t₁ E' _ F => ?_
  have R' := R.deeper (callEnvC (f243 w).1 L 243)
  repeat walk_at "s"
  obtain ⟨k, ea⟩ := ha.up F.sub
  refine isn_call (s := ⟨h₁, gs, dr, _, os⟩) (T := "list") (P := fun h => ∃ o, h.get? a = some o ∧ o.cls = .type "list") F.Wh.K (fun M => (Looks.ld ea).andThen .now) (by kernel_rfl) (by intro q; cases q) ⟨_, ea, rfl⟩ list_cls ?_
  refine wpAny_truthy_bool ?_
  refine ite_f rfl ?_
  repeat walk_at "s"
  refine l_eq R' (ha.up F.sub) (hb.up F.sub) hf hg ?_
  exact q _ _ _ F.gr
end
end
section
set_option maxRecDepth 100000
set_option maxHeartbeats 4000000
open PySem PySem.W PySem.Calls PyProof.Rows
open PySem.SeqAt (EqAt RcAt)
theorem eN_beq {a b : Nat} : (eN a == Value.int (b : Int) 0) = (a == b) := by
  rw [Bool.eq_iff_iff]; simp only [eN, beq_iff_eq, Value.int.injEq, and_true]; omega
theorem any_eN {xs : List Value} {ns : List Nat} {i : Nat} (e : xs.map er = ns.map eN) : (xs.any fun y => er y == Value.int (i : Int) 0) = ns.contains i := by
  rw [any_er e]
  have : (fun t => eN t == Value.int (i : Int) 0) = fun t => t == i := by funext t; exact eN_beq
  rw [this]; exact List.any_beq'
theorem filter_poor {ps : List Nat} {cols : List (List Bool)} : (ps.filter fun p => !(ps.filter (poorAt cols)).contains p) = ps.filter fun p => !poorAt cols p := by
  apply List.filter_congr
  intro p hp
  congr 1
  rw [Bool.eq_iff_iff, List.contains_iff_mem, List.mem_filter]
  exact ⟨fun h => h.2, fun h => ⟨hp, h⟩⟩
theorem poor_some {ps : List Nat} {cols : List (List Bool)} : ps.any (fun p => poorAt cols p) = true ↔ ps.filter (poorAt cols) ≠ [] := by
  rw [List.any_eq_true]
  constructor
  · rintro ⟨p, hp, e⟩ h
    have : p ∈ ps.filter (poorAt cols) := List.mem_filter.mpr ⟨hp, e⟩
    rw [h] at this; cases this
  · intro h
    obtain ⟨p, hp⟩ := List.exists_mem_of_ne_nil _ h
    exact ⟨p, (List.mem_filter.mp hp).1, (List.mem_filter.mp hp).2⟩

section
variable {w : World} {A : Around} {E : Value → Shared → Prop} {env : Env} {g h g₀ h₀ g' h' : Heap} {gs : Array GenState} {dr : Drawn} {t : Nat} {os : OsState} {m : Str → Option Value} {n : Nat} {wr : Addr → Prop} {μ : List (Addr × Obj)}

theorem c_law_kept {a c : Addr} {vs xs : List Value} {cols : List (List Bool)} {ps : List Nat} {count : Nat} {tka : Tok} {action : Str} {Q : Value → Shared → Prop} (R : Room A (n+2)) (sub : Sub g h) (W : Wd w g)
    (hlc : Lst g c vs) (hcs : Cols w g vs cols) (hn : cols.length ≤ 100) (hcount : count ≤ 100) (hlen : ∀ bs ∈ cols, bs.length = count) (hl : Lst g a xs) (hx : xs.map er = ps.map eN) (hp : ∀ p ∈ ps, p < count) (hps : ps.length ≤ 100)
    (q : ∀ b g' h' t' ys sp, Grow NoW g h g' h' → Lst g' b ys → ys.map er = sp.map eN → keptRows cols ps action = some sp → Q (.ref b) ⟨h', gs, dr, t', os⟩)
    (qs : ∀ g' h' t' tk, Grow NoW g h g' h' → keptRows cols ps action = none → Q (.str naMsg tk) ⟨h', gs, dr, t', os⟩) :
    wpAny (model PR w) A (call (.ref 236) [.ref c, .ref a, .str action tka]) Q E ⟨h, gs, dr, t, os⟩ := by
  refine call_v (wr := NoW) sub W R.room (f236 w).2 rfl (by kernel_rfl) rfl rfl rfl (.of_eq rfl) rfl (noWr _) fun L h₁ t₁ E' _ F => ?_
  have R' := R.deeper (callEnvC (f236 w).1 L 236)
  have len := len_map hx
  repeat walk_at "s"
  refine comp_expr rfl ?_
  repeat walk_at "s"
  refine comp_gen rfl (fun _ => rfl) rfl F (src_list R'.hd F.sub (hl.up (by walk_at "up"))) (by omega) ps len.symm (poorAt cols) eN (fun i p C g₁ h₁ t₁ v E' ha hP X G => ?_) fun D g₂ h₂ t₂ pw hD F le₂ lP eP => ?_
  · obtain ⟨a', ha', e⟩ := map_at hx hP
    rw [ha] at ha'; cases ha'
    obtain ⟨tk, rfl⟩ := er_int e
    have hlt := hp p (List.mem_of_getElem? ha)
    refine tests_one ?_
    repeat walk_at "s"
    refine comp_expr rfl ?_
    repeat walk_at "s"
    have hcl := hcs.1
    refine comp_genX rfl (fun _ => rfl) rfl X (src_list R'.hd X.sub (hlc.up (by walk_at "up"))) (by omega) cols hcl.symm (fun bs => bs[p]?.getD false) (fun _ => eI 1) (fun i bs C₂ g₃ h₃ t₃ v E' hb hP X₃ G₃ => ?_) fun D g₄ h₄ t₄ ys hD G₄ lY eY => ?_
    · obtain ⟨kind, ai, attrs, zs, hv, hzs, lzs, hcell⟩ := hcs.2 i v bs hP hb
      have lbs := hlen bs (List.mem_of_getElem? hb)
      refine tests_one ?_
      repeat walk_at "s"
      refine vec_items X₃.Wh (hv.up (by walk_at "up")) fun _ => ?_
      repeat walk_at "s"
      obtain ⟨xj, hxj⟩ : ∃ x, zs[p]? = some x := ⟨zs[p]'(by omega), by rw [List.getElem?_eq_getElem]⟩
      obtain ⟨bj, hbj⟩ : ∃ x, bs[p]? = some x := ⟨bs[p]'(by omega), by rw [List.getElem?_eq_getElem]⟩
      refine l_item (hzs.up (by walk_at "up")) rfl hxj (by omega) ?_ (by with_unfolding_all rfl)
      refine l_display ?_
      repeat walk_at "s"
      refine t_display ?_
      repeat walk_at "s"
      refine ⟨by simp, _, _, _, rfl, X₃.sub, fun tu g₅ h₅ htu G₅ lt => ?_⟩
      have X₅ := X₃.step0 G₅
      have le₅ := G₅.le
      repeat walk_at "s"
      refine ⟨by simp, _, _, _, rfl, X₅.sub, fun ll g₆ h₆ hll G₆ l₆ => ?_⟩
      have X₆ := X₅.step0 G₆
      have le₆ := G₆.le
      have s₆ : Sub g₅ h₆ := by walk_at "up"
      have cc : Cell g₃ kind xj bj := (hcell p xj bj hxj hbj).up (by walk_at "up")
      have lt' : h₆.IsTuple tu _ := let ⟨o, a, z⟩ := lt; ⟨o, s₆ _ _ a, z⟩
      refine in_cell R' (l₆.up X₆.sub) lt' (cc.up (by walk_at "up")) (fun r hr => ?_) ?_
      · intro hrt
        subst hrt
        rcases cc with ⟨e, _⟩ | ⟨n, t, e, _⟩ | ⟨r', p', q', tp, tq, e, _, ⟨o, ht, _⟩, _⟩
        · rw [hr] at e; cases e
        · rw [hr] at e; cases e
        · rw [hr] at e; cases e
          rw [X₃.sub _ _ ht] at htu; cases htu
      repeat walk_at "s"
      refine ⟨by rw [hbj]; rfl, _, _, _, rfl, G₅.trans G₆, fun _ => ?_⟩
      repeat walk_at "s"
      exact ⟨rfl, _, _, _, rfl, Grow.refl X₆.sub⟩
    · have X₄ := X.step0 G₄
      refine l_display ?_
      repeat walk_at "s"
      refine ⟨by simp, _, _, _, rfl, X₄.sub, fun ll g₆ h₆ hll G₆ l₆ => ?_⟩
      have X₆ := X₄.step0 G₆
      refine l_ne R' (lY.up (by walk_at "up")) (l₆.up X₆.sub) (flats (f := fun _ : List Bool => eI 1) (fun _ _ e => flat_eI e) eY) (by simp) ?_
      rw [er_nil_iff eY]
      repeat walk_at "s"
      refine ⟨?_, _, _, _, rfl, G₄.trans G₆, fun _ => ?_⟩
      · unfold poorAt
        rw [Bool.eq_iff_iff, decide_eq_true_eq, List.any_eq_true]
        constructor
        · intro h
          obtain ⟨b, hb⟩ := List.exists_mem_of_ne_nil _ h
          exact ⟨b, (List.mem_filter.mp hb).1, (List.mem_filter.mp hb).2⟩
        · rintro ⟨b, hb, e⟩ h
          have : b ∈ cols.filter fun bs => bs[p]?.getD false := List.mem_filter.mpr ⟨hb, e⟩
          rw [h] at this; cases this
      · repeat walk_at "s"
        exact ⟨rfl, _, _, _, rfl, Grow.refl X₆.sub⟩
  have lenP := len_map eP
  have bP : (ps.filter (poorAt cols)).length ≤ 100 := Nat.le_trans (List.length_filter_le _ _) hps
  repeat walk_at "s"
  rename Fn _ _ _ _ _ _ _ _ _ => F
  refine ite_s (fun hb => ?_) fun hb => ?_
  · have hf : action = "fail" := by simpa using hb
    have ho : ¬ action = "omit" := by rw [hf]; decide
    repeat walk_at "s"
    refine l_display ?_
    repeat walk_at "s"
    refine ⟨by simp, _, _, _, rfl, F.sub, fun b₄ g₄ h₄ hb₄ G l₄ => ?_⟩
    have F := F.step0 G
    refine l_ne R' (lP.up (by walk_at "up")) (l₄.up F.sub) (flats (f := eN) (fun _ _ => flat_eN) eP) (by simp) ?_
    rw [er_nil_iff eP]
    repeat walk_at "s"
    refine ite_s (fun hb => ?_) fun hb => ?_
    · have hB : ps.filter (poorAt cols) ≠ [] := by simpa using hb
      repeat walk_at "s"
      refine ite_t rfl ?_
      repeat walk_at "s"
      exact qs _ _ _ _ F.gr (by unfold keptRows; rw [if_neg ho, if_pos hf, if_pos (poor_some.mpr hB)])
    · have hB : ¬ ps.filter (poorAt cols) ≠ [] := by simpa using hb
      refine ite_f rfl ?_
      refine wpAny_execs_nil ?_
      repeat walk_at "s"
      refine ite_f (by simpa using ho) ?_
      refine wpAny_execs_nil ?_
      repeat walk_at "s"
      refine q a _ _ _ xs ps F.gr (hl.up (by walk_at "up")) hx ?_
      unfold keptRows
      rw [if_neg ho, if_pos hf, if_neg (fun h => hB (poor_some.mp h))]
  · have hf : ¬ action = "fail" := by simpa using hb
    refine ite_f rfl ?_
    refine wpAny_execs_nil ?_
    repeat walk_at "s"
    refine ite_s (fun hb => ?_) fun hb => ?_
    · have ho : action = "omit" := by simpa using hb
      repeat walk_at "s"
      refine comp_expr rfl ?_
      repeat walk_at "s"
      refine comp_gen rfl (fun _ => rfl) rfl F (src_list R'.hd F.sub (hl.up (by walk_at "up"))) (by omega) ps len.symm (fun p => !(ps.filter (poorAt cols)).contains p) eN (fun i p C g₁ h₁ t₁ v E' ha hP X G => ?_) fun D g₅ h₅ t₅ ys hD F le₅ lY eY => ?_
      · obtain ⟨a', ha', e⟩ := map_at hx hP
        rw [ha] at ha'; cases ha'
        obtain ⟨tk, rfl⟩ := er_int e
        refine tests_one ?_
        repeat walk_at "s"
        refine l_notIn (lP.up (by walk_at "up")) (flats (f := eN) (fun _ _ => flat_eN) eP) rfl ?_
        repeat walk_at "s"
        refine ⟨?_, _, _, _, rfl, Grow.refl X.sub, fun _ => ?_⟩
        · rw [show er (Value.int (p : Int) tk) = Value.int (p : Int) 0 from rfl, any_eN eP]
        · repeat walk_at "s"
          exact ⟨rfl, _, _, _, rfl, Grow.refl X.sub⟩
      refine q D _ _ _ ys _ F.gr lY eY ?_
      unfold keptRows
      rw [if_pos ho, filter_poor]
    · have ho : ¬ action = "omit" := by simpa using hb
      refine wpAny_execs_nil ?_
      repeat walk_at "s"
      refine q a _ _ _ xs ps F.gr (hl.up (by walk_at "up")) hx ?_
      unfold keptRows
      rw [if_neg ho, if_neg hf]
end
end
section
set_option maxRecDepth 100000
set_option maxHeartbeats 8000000
open PySem PySem.W PySem.Calls PyProof.Rows
open PySem.SeqAt (EqAt RcAt)
def RowObj (o : Obj) : Prop := ∃ xs k ns, o = lob xs k ∧ xs.map er = (ns : List Int).map eI ∧ xs.length ≤ 200
noncomputable def lawS (w : World) : {l : List Stmt // (f248 w).1.body = .stmts l} := ⟨_, rfl⟩
noncomputable abbrev lawEnv (w : World) (L : Addr) : Env := callEnvC (f248 w).1 L 248
/-- the law's end -/
def LQ (gs : Array GenState) (dr : Drawn) (os : OsState) (h₀ : Heap) (fl : Flow) (s : Shared) : Prop := fl = .ret (.bool true) ∧ ∃ h' t', s = ⟨h', gs, dr, t', os⟩ ∧ Sub h₀ h'

section
variable {w : World} {A : Around} {E : Value → Shared → Prop} {env : Env} {g h g₀ h₀ g' h' : Heap} {gs : Array GenState} {dr : Drawn} {t : Nat} {os : OsState} {m : Str → Option Value} {n : Nat} {wr : Addr → Prop} {μ : List (Addr × Obj)}
theorem RowAt.obj {a : Addr} {o : Obj} (r : RowAt h a) (e : h.get? a = some o) : RowObj o := by
  obtain ⟨xs, k, ns, e', r⟩ := r
  rw [e] at e'
  exact ⟨xs, k, ns, Option.some.inj e', r⟩
theorem RowObj.at {a : Addr} {o : Obj} (r : RowObj o) (e : h.get? a = some o) : RowAt h a := by
  obtain ⟨xs, k, ns, rfl, r⟩ := r
  exact ⟨xs, k, ns, e, r⟩
theorem Fn.row (l1 : List (Addr × Obj)) {l2 : List (Addr × Obj)} {a : Addr} {o : Obj} (F : Fn w wr g₀ h₀ env (l1 ++ (a, o) :: l2) m g h) (G : Grow (OnlyW a) g h g' h') (r : RowAt h' a) : ∃ o', Fn w wr g₀ h₀ env (l1 ++ (a, o') :: l2) m g' h' ∧ RowObj o' := by
  obtain ⟨o', e⟩ := r.ex
  exact ⟨o', F.stepN l1 G e, r.obj e⟩
theorem Fn.frok {g₀ h₀ : Heap} (F : Fn w wr g₀ h₀ env μ m g h) (hf : env.frame = some env.locals) : FrOk h [env] := by
  obtain ⟨ml, ⟨o, es, ep, q1, q2, q3⟩, q4⟩ := F.V.ns
  intro y hy
  rw [List.mem_singleton] at hy
  subst hy
  exact ⟨by rw [F.V.kind]; decide, _, o, hf, q1, fun vs q => by rw [q] at q2; cases q2⟩
/-- a draw -/
theorem draw (l1 : List (Addr × Obj)) {l2 : List (Addr × Obj)} {a : Addr} {o : Obj} {Q : Value → Shared → Prop} (R : Room A (n+1)) (F : Fn w wr g₀ h₀ env (l1 ++ (a, o) :: l2) m g h) (hr : RowObj o)
    (q : ∀ g' h' t' o' i tk, Fn w wr g₀ h₀ env (l1 ++ (a, o') :: l2) m g' h' → Sub g g' → RowObj o' → Q (.int i tk) ⟨h', gs, dr, t', os⟩) : wpAny (model PR w) A (call (.ref 209) [.ref a]) Q E ⟨h, gs, dr, t, os⟩ := by
  obtain ⟨e1, e2, e3, e4⟩ := F.led _ (List.mem_append.mpr (.inr (.head _)))
  refine c_law_next R F.sub F.W e2 (hr.at e1) fun g' h' t' i tk G r => ?_
  obtain ⟨o', F', r'⟩ := F.row l1 G r
  exact q g' h' t' o' i tk F' G.le r'
end
end
section
set_option maxRecDepth 100000
set_option maxHeartbeats 8000000
open PySem PySem.W PySem.Calls PyProof.Rows
open PySem.SeqAt (EqAt RcAt)
section
variable {w : World} {A : Around} {E : Value → Shared → Prop} {env : Env} {g h g₀ h₀ g' h' : Heap} {gs : Array GenState} {dr : Drawn} {t : Nat} {os : OsState} {m : Str → Option Value} {n : Nat} {wr : Addr → Prop} {μ : List (Addr × Obj)}

/-- what stands behind the first check -/
structure SA (w : World) (g : Heap) (m : Str → Option Value) (row : Addr) (many : Nat) (ts : List (Option Str)) (lev : List Str) : Prop where
  row : m "row" = some (.ref row)
  many : ∃ tk, m "many" = some (.int many tk)
  words : ∃ a xs, m "words" = some (.ref a) ∧ Lst g a xs ∧ xs.map er = ts.map eT
  f : ∃ v, m "f" = some v ∧ Fac w g v (codesL ts lev) lev
  due : ∃ a xs, m "due" = some (.ref a) ∧ Lst g a xs ∧ xs.map er = lev.map eS
structure PA (many : Nat) (ts : List (Option Str)) (lev : List Str) : Prop where
  le9 : many ≤ 9
  texts : Texts ts many
  mem : ∀ s, some s ∈ ts ↔ s ∈ lev
  nodup : lev.Nodup
  len : lev.length ≤ 9

def dedup (ss : List Str) : List Str := ((List.range ss.length).filter fun i => decide (i = 0) || !(ss.getD i "" == ss.getD (i-1) "")).map fun i => ss.getD i ""

theorem somes_eT (ts : List (Option Str)) : (ts.filter Option.isSome).map eT = (ts.filterMap id).map eS := by
  induction ts with
  | nil => rfl
  | cons o r ih =>
    cases o with
    | none => simpa using ih
    | some s => simp [ih, eT, eS]

theorem segA {a : Addr} {vs : List Value} {L : Addr} (hlev : ∀ (ts : List (Option Str)) (lev ss : List Str), lev.Perm (uniq ts) → sortedS lev = true → ss.Perm (ts.filterMap id) → sortedS ss = true → dedup ss = lev)
    (R : Room A 8) (hfr : A.frames = some [lawEnv w L]) (F : Fn w NoW g₀ h₀ (lawEnv w L) [] m g h) (hm : m "script" = some (.ref a)) (hl : g.IsList a vs.toArray) (hx : IntL vs) (hn : vs.length ≤ 63)
    (next : ∀ m' g' h' t' row o many ts lev, Fn w NoW g₀ h₀ (lawEnv w L) [(row, o)] m' g' h' → RowObj o → SA w g' m' row many ts lev → PA many ts lev → wpAny (model PR w) A (execs ((lawS w).1.drop 8) (lawEnv w L)) (LQ gs dr os h₀) E ⟨h', gs, dr, t', os⟩) :
    wpAny (model PR w) A (execs (lawS w).1 (lawEnv w L)) (LQ gs dr os h₀) E ⟨h, gs, dr, t, os⟩ := by
  show wpAny _ _ (execs (_ :: _) _) _ _ _
  repeat walk_at "s"
  refine c_law_row R F.sub F.W (isl_up hl (by walk_at "up")) hx hn fun row g₁ h₁ t₁ hb G gb rb => ?_
  obtain ⟨o, ho⟩ := rb.ex
  have F := F.adopt G hb gb ho
  have ro := rb.obj ho
  repeat walk_at "s"
  rename Fn _ _ _ _ _ _ _ _ _ => F
  refine draw [] R F ro fun g₂ h₂ t₂ o₂ i tk F le₂ ro => ?_
  repeat walk_at "s"
  refine o_mod (by decide) fun tkm _ => ?_
  obtain ⟨many, hmany, hlt⟩ := fmod_nat i 10 (by decide)
  rw [show i.fmod 10 = (many : Int) from hmany]
  repeat walk_at "s"
  rename Fn _ _ _ _ _ _ _ _ _ => F
  refine c_law_texts R F.sub F.W (F.led _ (.head _)).2.1 (ro.at (F.led _ (.head _)).1) (by omega) fun ww g₃ h₃ t₃ wv ts G rr lw ew ht => ?_
  obtain ⟨o₃, F, ro⟩ := F.row [] G rr
  have lenw := len_map ew
  have htl := ht.1
  repeat walk_at "s"
  rename Fn _ _ _ _ _ _ _ _ _ => F
  refine c_vec (at' := none) R F.sub F.W lw rfl (.inl ⟨rfl, rfl⟩) fun v g₄ h₄ t₄ hv G V => ?_
  have F := F.step0 G
  have le₄ := G.le
  obtain ⟨av, atv, hva, hvl, hvt⟩ := V
  repeat walk_at "s"
  refine c_text_factor R F.sub F.W hva hvl ew (by omega) fun fv g₅ h₅ t₅ lev hfv G hperm hsort hfac => ?_
  have F := F.step0 G
  have le₅ := G.le
  have hfac : Fac w g₅ (.ref fv) (codesL ts lev) lev := hfac
  have levlen : lev.length ≤ 9 := by
    have := uniq_len ts
    rw [hperm.length_eq]; omega
  repeat walk_at "s"
  rename Fn _ _ _ _ _ _ _ _ _ => F
  refine comp_assign rfl rfl ?_
  repeat walk_at "s"
  refine comp_gen_a rfl (fun _ => rfl) rfl rfl F (src_list R.hd F.sub (lw.up (by walk_at "up"))) (by omega) ts lenw.symm Option.isSome eT (fun i o' C g₁ h₁ t₁ u E' hap hP X G => ?_) fun pw g₆ h₆ t₆ pv hpw F leP lP eP => ?_
  · obtain ⟨o'', ho', e⟩ := map_at ew hP
    rw [hap] at ho'; cases ho'
    refine tests_one ?_
    repeat walk_at "s"
    cases o' with
    | none =>
      obtain rfl := er_none e
      exact ⟨rfl, _, _, _, rfl, Grow.refl X.sub, fun h => by cases h⟩
    | some sv =>
      obtain ⟨tk, rfl⟩ := er_str e
      refine ⟨rfl, _, _, _, rfl, Grow.refl X.sub, fun _ => ?_⟩
      repeat walk_at "s"
      exact ⟨rfl, _, _, _, rfl, Grow.refl X.sub⟩
  rw [somes_eT] at eP
  have lenP := len_map eP
  have ltP : (ts.filterMap id).length ≤ 9 := Nat.le_trans (List.length_filterMap_le _ _) (by omega)
  repeat walk_at "s"
  refine comp_expr rfl ?_
  repeat walk_at "s"
  refine c_sorted0 F.sub (lP.up F.sub) (strsAre_er eP) (by omega) fun sw g₇ h₇ sv ss hsw G lS hs hperm₂ hsort₂ => ?_
  have eS' := er_strsAre hs
  have lenS := len_map eS'
  have ltS : ss.length ≤ 9 := by rw [hperm₂.length_eq]; omega
  have F := F.step0 G
  refine comp_gen rfl (fun _ => rfl) rfl F (src_list R.hd F.sub (lS.up (by walk_at "up"))) (by omega) ss lenS.symm (fun _ => true) eS (fun i o' C g₁ h₁ t₁ u E' hap hP X G => ?_) fun dw g₈ h₈ t₈ dv hdw F leD lD eD => ?_
  · obtain ⟨o'', ho', e⟩ := map_at eS' hP
    rw [hap] at ho'; cases ho'
    refine tests_nil ⟨rfl, _, _, _, rfl, Grow.refl X.sub, fun _ => ?_⟩
    repeat walk_at "s"
    exact ⟨e, _, _, _, rfl, Grow.refl X.sub⟩
  rw [List.filter_eq_self.mpr (fun _ _ => rfl)] at eD
  have lenD := len_map eD
  repeat walk_at "s"
  rename Fn _ _ _ _ _ _ _ _ _ => F
  refine comp_expr rfl ?_
  repeat walk_at "s"
  refine l_len (lD.up (by walk_at "up")) (by omega) fun _ _ => ?_
  repeat walk_at "s"
  refine r_range F.sub fun r g₉ h₉ t₉ x y z hr G hrr => ?_
  have F := F.step0 G
  have le₉ := G.le
  refine comp_gen rfl (fun _ => rfl) rfl F (src_range R.hd (by omega) hrr) (by omega) (List.range dv.length) (by simp) (fun i => decide (i = 0) || !(ss.getD i "" == ss.getD (i-1) "")) (fun i => eS (ss.getD i "")) (fun i o' C g₁ h₁ t₁ u E' hap hP X G => ?_) fun dw₂ g₁₀ h₁₀ t₁₀ dv₂ hdw₂ F leD₂ lD₂ eD₂ => ?_
  · obtain ⟨tu, rfl⟩ := hP
    have hia : o' = i ∧ i < dv.length := by
      have := List.getElem?_eq_some_iff.mp hap; obtain ⟨h1, e⟩ := this
      exact ⟨by simpa using e.symm, by simpa using h1⟩
    obtain ⟨rfl, hi⟩ := hia
    obtain ⟨s1, hs1⟩ : ∃ s, ss[o']? = some s := ⟨ss[o']'(by omega), by rw [List.getElem?_eq_getElem]⟩
    have g1 : ss.getD o' "" = s1 := by rw [List.getD_eq_getElem?_getD, hs1]; rfl
    obtain ⟨v1, hv1, ev1⟩ := at_map eD hs1
    obtain ⟨tk1, rfl⟩ := er_str ev1
    refine tests_one ?_
    repeat walk_at "s"
    refine ite_s (fun hb => ?_) fun hb => ?_
    · have h0 : o' = 0 := by have : (o' : Int) = 0 := by simpa using hb
                             omega
      refine ⟨by simp [h0], _, _, _, rfl, Grow.refl X.sub, fun _ => ?_⟩
      repeat walk_at "s"
      refine l_item (lD.up (by walk_at "up")) rfl hv1 (by omega) ?_ (by with_unfolding_all rfl)
      exact ⟨by rw [g1]; rfl, _, _, _, rfl, Grow.refl X.sub⟩
    · have h0 : ¬ o' = 0 := by have : ¬ (o' : Int) = 0 := by simpa using hb
                               omega
      obtain ⟨s2, hs2⟩ : ∃ s, ss[o'-1]? = some s := ⟨ss[o'-1]'(by omega), by rw [List.getElem?_eq_getElem]⟩
      have g2 : ss.getD (o'-1) "" = s2 := by rw [List.getD_eq_getElem?_getD, hs2]; rfl
      obtain ⟨v2, hv2, ev2⟩ := at_map eD hs2
      obtain ⟨tk2, rfl⟩ := er_str ev2
      repeat walk_at "s"
      refine l_item (lD.up (by walk_at "up")) rfl hv1 (by omega) ?_ (by with_unfolding_all rfl)
      repeat walk_at "s"
      refine l_item (i := o' - 1) (lD.up (by walk_at "up")) (by omega) hv2 (by omega) ?_ (by with_unfolding_all rfl)
      repeat walk_at "s"
      refine ite_s (fun hb => ?_) fun hb => ?_
      · refine ⟨by rw [g1, g2]; simp only [bne, Bool.not_eq_true'] at hb; rw [hb]; simp, _, _, _, rfl, Grow.refl X.sub, fun _ => ?_⟩
        repeat walk_at "s"
        refine l_item (lD.up (by walk_at "up")) rfl hv1 (by omega) ?_ (by with_unfolding_all rfl)
        exact ⟨by rw [g1]; rfl, _, _, _, rfl, Grow.refl X.sub⟩
      · repeat walk_at "s"
        have hb : (s1 == s2) = true := by simpa [bne] using hb
        have hf : (decide (o' = 0) || !(ss.getD o' "" == ss.getD (o'-1) "")) = false := by rw [g1, g2, hb]; simp [h0]
        refine ⟨hf.symm, _, _, _, rfl, Grow.refl X.sub, fun h => ?_⟩
        rw [hf] at h; cases h
  have eD₂ : dv₂.map er = lev.map eS := by
    rw [eD₂, ← hlev ts lev ss hperm hsort hperm₂ hsort₂]
    unfold dedup
    rw [lenD, List.map_map]; rfl
  repeat walk_at "s"
  rename Fn _ _ _ _ _ _ _ _ _ => F
  have pa : PA many ts lev := ⟨by omega, ht, fun s => by rw [hperm.mem_iff, mem_uniq], hperm.nodup_iff.mpr (uniq_nodup ts), levlen⟩
  have hfac0 := hfac
  have lcs : (codesL ts lev).length = ts.length := by unfold codesL; rw [List.length_map]
  have tcs := told_codes (ts := ts) (nl := lev) fun s hs => (pa.mem s).mp hs
  have okc := okCs_codes (ts := ts) (nl := lev) fun s hs => (pa.mem s).mp hs
  obtain ⟨ys, lv, cv, ls, cls, ⟨af, attrs, hv, hl', ha⟩, eys, ⟨alv, atl, hvl, hllv, hal⟩, els, hcv, ecl⟩ := hfac
  obtain ⟨da, rfl, Da⟩ := ha
  refine vec_attrs F.Wh (hv.up (by walk_at "up")) fun _ => ?_
  repeat walk_at "s"
  refine d_item (knd := sK w) (k := ("levels" : Str)) (Da.up (by walk_at "up")).1 (by simp [sK, PySem.strKind, Value.isStrOf]) va_lev (fun _ => ?_) (by with_unfolding_all rfl)
  repeat walk_at "s"
  refine vec_items F.Wh (hvl.up (by walk_at "up")) fun _ => ?_
  repeat walk_at "s"
  refine l_ne R (hllv.up (by walk_at "up")) (lD₂.up (by walk_at "up")) (flats (f := eS) (fun _ _ => flat_eS) els) (flats (f := eS) (fun _ _ => flat_eS) eD₂) ?_
  rw [els, eD₂, decide_eq_true rfl]
  repeat walk_at "s"
  refine ite_f rfl ?_
  repeat walk_at "s"
  refine c_law_told R F.sub F.W (hfac0.up (by walk_at "up")) okc (by omega) (by omega) fun tw g₁₁ h₁₁ t₁₁ tv G lT eT' => ?_
  rw [tcs] at eT'
  have F := F.step0 G
  have le₁₁ := G.le
  repeat walk_at "s"
  refine l_ne R (lT.up (by walk_at "up")) (lw.up (by walk_at "up")) (flats (f := eT) (fun _ _ => flat_eT) eT') (flats (f := eT) (fun _ _ => flat_eT) ew) ?_
  rw [eT', ew, decide_eq_true rfl]
  repeat walk_at "s"
  refine ite_f rfl ?_
  repeat walk_at "s"
  refine ite_f rfl ?_
  refine wpAny_execs_nil ?_
  refine next _ _ _ _ row _ many ts lev F ro ⟨by walk_at "m", ⟨_, by walk_at "m"⟩, ⟨ww, wv, by walk_at "m", lw.up (by walk_at "up"), ew⟩, ⟨_, by walk_at "m", hfac0.up (by walk_at "up")⟩, ⟨dw₂, dv₂, by walk_at "m", lD₂.up (by walk_at "up"), eD₂⟩⟩ pa
end
end
section
set_option maxRecDepth 100000
set_option maxHeartbeats 8000000
open PySem PySem.W PySem.Calls PyProof.Rows
open PySem.SeqAt (EqAt RcAt)
theorem same_upd {l : List Str} {m m' : Str → Option Value} {y : Str} {v : Value} (h : ∀ x ∈ l, m' x = m x) (hy : y ∉ l) : ∀ x ∈ l, upd m' y v x = m x := fun x hx => (upd_ne (fun e : x = y => hy (e ▸ hx))).trans (h x hx)
theorem same_dele {l : List Str} {m m' : Str → Option Value} {y : Str} {v : Option Value} (h : ∀ x ∈ l, m' x = m x) (hy : y ∉ l) : ∀ x ∈ l, dele m' y v x = m x := fun x hx => (dele_ne (fun e : x = y => hy (e ▸ hx))).trans (h x hx)
end
local macro_rules | `(tactic| walk_at "keep") => `(tactic| first | exact fun _ _ => rfl | assumption | (refine same_upd ?_ (by decide); walk_at "keep") | (refine same_dele ?_ (by decide); walk_at "keep"))
section
set_option maxRecDepth 100000
set_option maxHeartbeats 8000000
open PySem PySem.W PySem.Calls PyProof.Rows
open PySem.SeqAt (EqAt RcAt)
def saNames : List Str := ["row", "many", "words", "f", "due"]
theorem SA.move {w : World} {g g' : Heap} {m m' : Str → Option Value} {row : Addr} {many : Nat} {ts : List (Option Str)} {lev : List Str} (S : SA w g m row many ts lev) (s : Sub g g') (h : ∀ x ∈ saNames, m' x = m x) : SA w g' m' row many ts lev :=
  ⟨(h "row" (by decide)).trans S.row, (let ⟨tk, e⟩ := S.many; ⟨tk, (h "many" (by decide)).trans e⟩), (let ⟨a, xs, e, l, r⟩ := S.words; ⟨a, xs, (h "words" (by decide)).trans e, l.up s, r⟩), (let ⟨v, e, l⟩ := S.f; ⟨v, (h "f" (by decide)).trans e, l.up s⟩), (let ⟨a, xs, e, l, r⟩ := S.due; ⟨a, xs, (h "due" (by decide)).trans e, l.up s, r⟩)⟩

theorem num_eq {ns : List Int} {count : Nat} : numRows ns count = lawNum ns count := by
  unfold numRows lawNum
  by_cases hb : (ns.filter fun n => decide (n < 0)) = []
  · rw [if_pos (by rw [hb]; rfl), if_neg (fun h => h.1 hb), if_neg (fun h => h hb)]
  · have hl : ¬ (ns.filter fun n => decide (n < 0)).length = 0 := fun e => hb (List.eq_nil_of_length_eq_zero e)
    rw [if_neg hl]
    by_cases ha : (ns.filter fun n => decide (n > 0)) = []
    · rw [if_neg (by rw [ha]; decide), if_neg (fun h => h.2 ha), if_pos hb]
      congr 2
      apply List.filter_congr
      intro p _
      congr 1
      rw [Bool.eq_iff_iff, List.contains_iff_mem, List.contains_iff_mem, List.mem_map]
      constructor
      · rintro ⟨n, hn, e⟩
        have : n = -1 - (p : Int) := by omega
        exact this ▸ hn
      · intro h
        exact ⟨_, h, by omega⟩
    · have hp : (ns.filter fun n => decide (n > 0)).length > 0 := by
        have : (ns.filter fun n => decide (n > 0)).length ≠ 0 := fun e => ha (List.eq_nil_of_length_eq_zero e)
        omega
      rw [if_pos hp, if_pos ⟨hb, ha⟩]
theorem num_spots {ns : List Int} {many : Nat} {sp : List Int} (h : lawNum ns many = some sp) (hb : ∀ n ∈ ns, -(many : Int) ≤ n ∧ n ≤ (many : Int)) (h1 : ns.length ≤ 9) (h2 : many ≤ 9) : ∃ ps : List Nat, sp = ps.map (fun (p : Nat) => (p : Int)) ∧ (∀ p ∈ ps, p < many) ∧ ps.length ≤ 9 := by
  unfold lawNum at h
  split at h
  · cases h
  · split at h
    · have h := Option.some.inj h
      refine ⟨_, h.symm, fun p hp => by simpa using (List.mem_filter.mp hp).1, Nat.le_trans (List.length_filter_le _ _) (by rw [List.length_range]; exact h2)⟩
    · have h := Option.some.inj h
      refine ⟨(ns.filter fun n => decide (n > 0)).map fun n => (n - 1).toNat, ?_, fun p hp => ?_, ?_⟩
      · rw [← h, List.map_map]
        apply List.map_congr_left
        intro n hn
        have : n > 0 := by simpa using (List.mem_filter.mp hn).2
        show n - 1 = (((n - 1).toNat : Nat) : Int)
        omega
      · obtain ⟨n, hn, e⟩ := List.mem_map.mp hp
        have h3 : n > 0 := by simpa using (List.mem_filter.mp hn).2
        have h4 := hb n (List.mem_filter.mp hn).1
        omega
      · rw [List.length_map]
        exact Nat.le_trans (List.length_filter_le _ _) h1

section
variable {w : World} {A : Around} {E : Value → Shared → Prop} {env : Env} {g h g₀ h₀ g' h' : Heap} {gs : Array GenState} {dr : Drawn} {t : Nat} {os : OsState} {m : Str → Option Value} {n : Nat} {wr : Addr → Prop} {μ : List (Addr × Obj)}

/-- the numbers told -/
def Num (g : Heap) (m : Str → Option Value) (many : Nat) (ns : List Int) : Prop := ∃ a xs, m "numbers_told" = some (.ref a) ∧ Lst g a xs ∧ xs.map er = ns.map eI ∧ ns.length ≤ 5 ∧ ∀ n ∈ ns, -(many : Int) ≤ n ∧ n ≤ (many : Int)

theorem segB {L : Addr} {row : Addr} {o : Obj} {many : Nat} {ts : List (Option Str)} {lev : List Str}
    (R : Room A 8) (hfr : A.frames = some [lawEnv w L]) (F : Fn w NoW g₀ h₀ (lawEnv w L) [(row, o)] m g h) (ro : RowObj o) (S : SA w g m row many ts lev) (P : PA many ts lev)
    (next : ∀ m' g' h' t' o' sp sv (ps : List Nat), Fn w NoW g₀ h₀ (lawEnv w L) [(row, o')] m' g' h' → RowObj o' → SA w g' m' row many ts lev → m' "spots" = some (.ref sp) → Lst g' sp sv → sv.map er = ps.map eN → (∀ p ∈ ps, p < many) → ps.length ≤ 9 →
      wpAny (model PR w) A (execs ((lawS w).1.drop 14) (lawEnv w L)) (LQ gs dr os h₀) E ⟨h', gs, dr, t', os⟩) :
    wpAny (model PR w) A (execs ((lawS w).1.drop 8) (lawEnv w L)) (LQ gs dr os h₀) E ⟨h, gs, dr, t, os⟩ := by
  have S0 := S
  have P0 := P
  obtain ⟨hrow, ⟨tkm, hmany⟩, _, _, _⟩ := S
  have hle := P.le9
  show wpAny _ _ (execs (_ :: _) _) _ _ _
  refine wpAny_execs_cons ?_
  refine comp_assign rfl rfl ?_
  repeat walk_at "s"
  refine draw [] R F ro fun g₁ h₁ t₁ o₁ i tk F le₁ ro => ?_
  repeat walk_at "s"
  refine o_mod (by decide) fun _ _ => ?_
  obtain ⟨cnt, hcnt, hlt⟩ := fmod_nat i 6 (by decide)
  rw [show i.fmod 6 = (cnt : Int) from hcnt]
  repeat walk_at "s"
  refine r_range F.sub fun r g₂ h₂ t₂ x y z hr G hrr => ?_
  have F := F.step0 G
  have le₂ := G.le
  refine comp_row_a (l1 := []) rfl (fun _ => rfl) rfl rfl F (src_range R.hd (by omega) hrr) (by omega) (ro.at (F.led _ (.head _)).1) (fun _ y => ∃ i : Int, er y = eI i ∧ (-(many : Int) ≤ i ∧ i ≤ (many : Int))) (fun _ _ _ h _ => h) (fun i C g₁ h₁ t₁ v E' hP X G hw hga hra => ?_) fun nn g₃ h₃ t₃ nv o₃ hnn F le₃ lN lenN hN rr => ?_
  · repeat walk_at "s"
    refine c_law_next R X.sub X.W hga hra fun g₇ h₇ t₇ i tk G7 hr7 => ?_
    have X7 := X.step G7 (fun b q => q ▸ hw)
    repeat walk_at "s"
    refine o_mul (.of_left (by decide)) fun _ _ => ?_
    repeat walk_at "s"
    refine o_mod (by omega) fun _ _ => ?_
    repeat walk_at "s"
    have b0 : (0 : Int) < 2 * (many : Int) + 1 := by omega
    have b1 := Int.fmod_nonneg_of_pos i b0
    have b2 := Int.fmod_lt_of_pos i b0
    exact ⟨_, _, _, rfl, G7, hr7, _, rfl, by omega, by omega⟩
  have ro := rr.obj (F.led _ (.head _)).1
  obtain ⟨ns, hns⟩ := take_all hN
  obtain ⟨en, bn⟩ := paired_er hns
  have lenn := len_map en
  show wpAny _ _ (execs (_ :: _) _) _ _ _
  refine wpAny_execs_cons (wpAny_mono (Q := fun fl s' => fl = .next ∧ ∃ g' h' t' m' o' ns', s' = ⟨h', gs, dr, t', os⟩ ∧ Fn w NoW g₀ h₀ (lawEnv w L) [(row, o')] m' g' h' ∧ RowObj o' ∧ SA w g' m' row many ts lev ∧ Num g' m' many ns') ?_ (fun fl s' q => ?_) fun _ _ z => z)
  · repeat walk_at "s"
    refine draw [] R F ro fun g₄ h₄ t₄ o₄ i₂ tk₂ F le₄ ro => ?_
    repeat walk_at "s"
    refine o_mod (by decide) fun _ _ => ?_
    repeat walk_at "s"
    refine ite_s (fun hb => ?_) fun hb => ?_
    · refine wpAny_execs_cons ?_
      refine comp_assign rfl rfl ?_
      repeat walk_at "s"
      refine comp_gen_a rfl (fun _ => rfl) rfl rfl F (src_list R.hd F.sub (lN.up (by walk_at "up"))) (by omega) ns lenn.symm (fun _ => true) (fun n => eI (if n < 0 then n else 0 - n)) (fun i a C g₁ h₁ t₁ v E' ha hP X G => ?_) fun D g₅ h₅ t₅ ys hD F le₅ lY eY => ?_
      · obtain ⟨a', ha', e⟩ := map_at en hP
        rw [ha] at ha'; cases ha'
        obtain ⟨tk, rfl⟩ := er_int e
        refine tests_nil ⟨rfl, _, _, _, rfl, Grow.refl X.sub, fun _ => ?_⟩
        repeat walk_at "s"
        refine ite_s (fun hb => ?_) fun hb => ?_
        · have hb : a < 0 := by simpa using hb
          repeat walk_at "s"
          exact ⟨by rw [if_pos hb]; rfl, _, _, _, rfl, Grow.refl X.sub⟩
        · have hb : ¬ a < 0 := by simpa using hb
          repeat walk_at "s"
          exact ⟨by rw [if_neg hb]; rfl, _, _, _, rfl, Grow.refl X.sub⟩
      rw [List.filter_eq_self.mpr (fun _ _ => rfl)] at eY
      refine wpAny_execs_nil ⟨rfl, _, _, _, _, _, ns.map (fun n => if n < 0 then n else 0 - n), rfl, F, ro, S0.move (by walk_at "up") (by walk_at "keep"), D, ys, by walk_at "m", lY, by rw [eY]; exact mm (fun n : Int => if n < 0 then n else 0 - n) eI ns, by rw [List.length_map]; omega, fun n hn => ?_⟩
      obtain ⟨k, hk, e⟩ := List.mem_map.mp hn
      have := bn k hk
      rw [← e]; split <;> omega
    · exact wpAny_execs_nil ⟨rfl, _, _, _, _, _, ns, rfl, F, ro, S0.move (by walk_at "up") (by walk_at "keep"), nn, nv, by walk_at "m", lN.up (by walk_at "up"), en, by omega, bn⟩
  clear F ro lN en bn hns hN S0 hrow hmany
  obtain ⟨rfl, g₄, h₄, t₄, m₄, o₄, ns, rfl, F, ro, S0, ⟨nn, nv, hnum, lN, en, l5, bn⟩⟩ := q
  obtain ⟨hrow, ⟨tkm, hmany⟩, _, _, _⟩ := id S0
  have lenn := len_map en
  show wpAny _ _ (execs (_ :: _) _) _ _ _
  refine wpAny_execs_cons (wpAny_mono (Q := fun fl s' => fl = .next ∧ ∃ g' h' t' m', s' = ⟨h', gs, dr, t', os⟩ ∧ Fn w NoW g₀ h₀ (lawEnv w L) [(row, o₄)] m' g' h' ∧ SA w g' m' row many ts lev ∧ m' "numbers_told" = some (.ref nn) ∧ Sub g₄ g' ∧
    ((∃ b ys sp, m' "told" = some (.ref b) ∧ Lst g' b ys ∧ ys.map er = (sp : List Int).map eI ∧ lawNum ns many = some sp) ∨ (∃ e tk, m' "told" = some (.ref e) ∧ ExcF g' e (.str mixMsg tk) ∧ lawNum ns many = none))) ?_ (fun fl s' q => ?_) fun _ _ z => z)
  · refine try_stmt ?_
    repeat walk_at "s"
    refine c_numbered_rows R hfr (F.frok rfl) F.sub F.W lN en (by omega) (by omega) (fun b g₅ h₅ t₅ ys sp G lY eY hsp => ?_) fun e h₅ t₅ tk hnone T => ?_
    · have F := F.step0 G
      have le₅ := G.le
      repeat walk_at "s"
      rename Fn _ _ _ _ _ _ _ _ _ => F
      refine wpAny_execs_nil ⟨rfl, _, _, _, _, rfl, F, S0.move (by walk_at "up") (by walk_at "keep"), by walk_at "m", by walk_at "up", .inl ⟨b, ys, sp, by walk_at "m", lY, eY, by rw [← num_eq]; exact hsp⟩⟩
    · refine try_caught hfr rfl F T rfl rfl (by decide) rfl rfl fun g₅ h₅ t₅ v F le₅ X => ?_
      exact ⟨rfl, _, _, _, _, rfl, F, S0.move (by walk_at "up") (by walk_at "keep"), by walk_at "m", by walk_at "up", .inr ⟨e, tk, by walk_at "m", X, by rw [← num_eq]; exact hnone⟩⟩
  clear F S0 hrow hmany
  obtain ⟨rfl, g₅, h₅, t₅, m₅, rfl, F, S0, hnum, le₅, hT⟩ := q
  obtain ⟨hrow, ⟨tkm, hmany⟩, _, _, _⟩ := id S0
  rcases hT with ⟨b, ys, sp, htold, lY, eY, hsp⟩ | ⟨e, tk, htold, X, hnone⟩
  · repeat walk_at "s"
    refine c_law_numbered R F.sub F.W (lN.up (by walk_at "up")) en (by omega) (by omega) (fun b₂ g₆ h₆ t₆ zs sp₂ G lZ eZ hsp₂ => ?_) fun g₆ h₆ t₆ tk G hnone => ?_
    · rw [hsp] at hsp₂; cases hsp₂
      have F := F.step0 G
      have le₆ := G.le
      repeat walk_at "s"
      rename Fn _ _ _ _ _ _ _ _ _ => F
      refine c_law_asked_lst R F.sub F.W (lY.up (by walk_at "up")) (lZ.up (by walk_at "up")) (flats (f := eI) (fun _ _ => flat_eI) eY) (flats (f := eI) (fun _ _ => flat_eI) eZ) fun g₇ h₇ t₇ G => ?_
      rw [eY, eZ, decide_eq_true rfl]
      have F := F.step0 G
      have le₇ := G.le
      repeat walk_at "s"
      refine ite_f rfl ?_
      refine wpAny_execs_nil ?_
      repeat walk_at "s"
      refine call_isinstance (isinstance_false_list (by decide +kernel) PySem.F.isi_meta_str (by rw [isSubtype_type]; kernel_rfl)) ⟨(let ⟨_, e⟩ := lZ.up (by walk_at "up"); ⟨_, e, rfl⟩), ?_⟩
      refine wpAny_truthy_bool ?_
      refine ite_f rfl ?_
      refine wpAny_execs_nil ?_
      obtain ⟨ps, rfl, hlt, hlen⟩ := num_spots hsp bn (by omega) hle
      refine next _ _ _ _ _ b₂ zs ps F ro (S0.move (by walk_at "up") (by walk_at "keep")) (by walk_at "m") (lZ.up (by walk_at "up")) (by rw [eZ, ← mm]; rfl) hlt hlen
    · rw [hsp] at hnone; cases hnone
  · repeat walk_at "s"
    refine c_law_numbered R F.sub F.W (lN.up (by walk_at "up")) en (by omega) (by omega) (fun b₂ g₆ h₆ t₆ zs sp₂ G lZ eZ hsp₂ => ?_) fun g₆ h₆ t₆ tk G _ => ?_
    · rw [hnone] at hsp₂; cases hsp₂
    · have F := F.step0 G
      have le₆ := G.le
      repeat walk_at "s"
      rename Fn _ _ _ _ _ _ _ _ _ => F
      refine c_law_asked_exc R F.sub F.W (X.up (by walk_at "up")) fun g₇ h₇ t₇ G => ?_
      have F := F.step0 G
      have le₇ := G.le
      repeat walk_at "s"
      refine ite_f (by simp) ?_
      refine wpAny_execs_nil ?_
      repeat walk_at "s"
      refine call_isinstance (isinstance_true (Tx := "str") PySem.F.isi_meta_str (by rw [isSubtype_type]; kernel_rfl)) ⟨rfl, ?_⟩
      refine wpAny_truthy_bool ?_
      refine ite_t rfl ?_
      repeat walk_at "s"
      refine r_range F.sub fun r g₈ h₈ t₈ x y z hr G hrr => ?_
      have F := F.step0 G
      have le₈ := G.le
      repeat walk_at "s"
      refine c_list_range R.hd F.sub hrr (by omega) fun b₃ g₉ h₉ t₉ zs hb₃ G lZ eZ => ?_
      have F := F.step0 G
      have le₉ := G.le
      repeat walk_at "s"
      rename Fn _ _ _ _ _ _ _ _ _ => F
      refine wpAny_execs_nil ?_
      refine next _ _ _ _ _ b₃ zs (List.range many) F ro (S0.move (by walk_at "up") (by walk_at "keep")) (by walk_at "m") (lZ.up (by walk_at "up")) eZ (fun p hp => by simpa using hp) (by rw [List.length_range]; exact hle)
end
end
section
set_option maxRecDepth 100000
set_option maxHeartbeats 8000000
open PySem PySem.W PySem.Calls PyProof.Rows
open PySem.SeqAt (EqAt RcAt)
theorem paired_at {α β : Type} {F : α → β → Prop} : ∀ {l : List α} {l' : List β}, Paired F l l' → ∀ {i : Nat} {x : α} {y : β}, l[i]? = some x → l'[i]? = some y → F x y
  | _, _, .nil, i, _, _, h, _ => by simp at h
  | _, _, .cons a b, 0, _, _, h1, h2 => by simp at h1 h2; subst h1; subst h2; exact a
  | _, _, .cons a b, i+1, _, _, h1, h2 => paired_at b (by simpa using h1) (by simpa using h2)
theorem fac_col {w : World} {g : Heap} {v : Value} {cs : List (Option Int)} {lev : List Str} (hf : Fac w g v cs lev) : Col w g v (cs.map Option.isNone) := by
  obtain ⟨ys, lv, cv, ls, cls, ⟨a, attrs, hv, hl, ha⟩, eys, _⟩ := hf
  have len := len_map eys
  refine ⟨_, a, attrs, ys, hv, hl, by rw [List.length_map]; exact len, fun i x b hx hb => ?_⟩
  obtain ⟨o, ho, e⟩ := map_at eys hx
  rw [List.getElem?_map, ho] at hb
  cases o with
  | none => cases hb; exact .inl ⟨er_none e, rfl⟩
  | some k =>
    cases hb
    obtain ⟨tk, rfl⟩ := er_int e
    exact .inr (.inl ⟨k, tk, rfl, by decide, rfl⟩)

section
variable {w : World} {A : Around} {E : Value → Shared → Prop} {env : Env} {g h g₀ h₀ g' h' : Heap} {gs : Array GenState} {dr : Drawn} {t : Nat} {os : OsState} {m : Str → Option Value} {n : Nat} {wr : Addr → Prop} {μ : List (Addr × Obj)}

/-- a display whose list stays one's own -/
theorem l_displayU {pos : Pos} {elts : List Expr} {Q : Value → Shared → Prop}
    (hq : wpAny (model PR w) A (spliced (backTo pos (starEach elts env))) (fun vs s₁ => vs.length ≤ 100 ∧ ∃ h t, s₁ = ⟨h, gs, dr, t, os⟩ ∧ ∀ a h', h.get? a = none → Sub h h' → h'.get? a = some (lob vs 0) → Q (.ref a) ⟨h', gs, dr, t, os⟩) E ⟨h, gs, dr, t, os⟩) :
    wpAny (model PR w) A (eval (.List elts pos) env) Q E ⟨h, gs, dr, t, os⟩ := by
  refine PySem.wpAny_List (wpAny_mono hq (fun vs s₁ h₁ => ?_) fun _ _ z => z)
  obtain ⟨hn, h, t, rfl, h₁⟩ := h₁
  refine ⟨by rw [sizeLine_eq]; omega, ?_⟩
  exact h₁ h.objs.size _ (get_none_of (Nat.le_refl _)) (fun b o e => Heap.get?_push_of_some _ e) (Heap.get?_push_size _ rfl)
theorem cell_pair {r : Addr} {p q : Int} {tp tq : Tok} (l : g.IsTuple r #[.int p tp, .int q tq]) : ∃ b, Cell g "double" (.ref r) b := ⟨_, .inr (.inr ⟨r, p, q, tp, tq, rfl, by decide, l, rfl⟩)⟩
theorem tup_up {a : Addr} {xs : Array Value} (x : g.IsTuple a xs) (s : Sub g h) : h.IsTuple a xs := let ⟨o, e, r⟩ := x; ⟨o, s _ _ e, r⟩

theorem t_pair {k k1 k2 : Nat} {pos p1 p2 : Pos} {a b : Int} {Q : Value → Shared → Prop} (X : Ex w env m g h) (q : ∀ r g' h' t' tp tq, Grow NoW g h g' h' → g'.IsTuple r #[.int a tp, .int b tq] → Q (.ref r) ⟨h', gs, dr, t', os⟩) :
    wpAny (model PR w) A (eval (.Tuple [.Constant (.int a) k1 p1, .Constant (.int b) k2 p2] k pos) env) Q E ⟨h, gs, dr, t, os⟩ := by
  refine t_display ?_
  repeat walk_at "s"
  exact ⟨by simp, _, _, _, rfl, X.sub, fun r g' h' _ G l => q r g' h' _ _ _ G l⟩

theorem segC {L : Addr} {row sp : Addr} {o : Obj} {many : Nat} {ts : List (Option Str)} {lev : List Str}
    (R : Room A 8) (F : Fn w NoW g₀ h₀ (lawEnv w L) [(row, o)] m g h) (ro : RowObj o) (S : SA w g m row many ts lev) (P : PA many ts lev) (hsp : m "spots" = some (.ref sp))
    (next : ∀ m' g' h' t' o' cl vs (cols : List (List Bool)), Fn w NoW g₀ h₀ (lawEnv w L) [(row, o')] m' g' h' → RowObj o' → Sub g g' → SA w g' m' row many ts lev → m' "spots" = some (.ref sp) → m' "columns" = some (.ref cl) → Lst g' cl vs → Cols w g' vs cols → cols.length ≤ 5 → (∀ bs ∈ cols, bs.length = many) →
      wpAny (model PR w) A (execs ((lawS w).1.drop 16) (lawEnv w L)) (LQ gs dr os h₀) E ⟨h', gs, dr, t', os⟩) :
    wpAny (model PR w) A (execs ((lawS w).1.drop 14) (lawEnv w L)) (LQ gs dr os h₀) E ⟨h, gs, dr, t, os⟩ := by
  have S0 := S
  have P0 := P
  obtain ⟨hrow, ⟨tkm, hmany⟩, _, ⟨fv, hfv, hfac⟩, _⟩ := S
  have hle := P.le9
  have htl := P.texts.1
  show wpAny _ _ (execs (_ :: _) _) _ _ _
  refine wpAny_execs_cons (wpAny_Assign_Name (l_displayU ?_) (by with_unfolding_all rfl))
  repeat walk_at "s"
  refine ⟨by simp, _, _, rfl, fun cl h₁ hcl scl ecl => ?_⟩
  have F := F.push hcl scl ecl
  repeat walk_at "s"
  rename Fn _ _ _ _ _ _ _ _ _ => F
  refine for_stmt ?_
  repeat walk_at "s"
  refine draw [(cl, lob [fv] 0)] R F ro fun g₁ h₁ t₁ o₁ i tk F le₁ ro => ?_
  repeat walk_at "s"
  refine o_mod (by decide) fun _ _ => ?_
  obtain ⟨cnt, hcnt, hlt⟩ := fmod_nat i 3 (by decide)
  rw [show i.fmod 3 = (cnt : Int) from hcnt]
  repeat walk_at "s"
  refine r_range F.sub fun r g₂ h₂ t₂ x y z hr G hrr => ?_
  have F := F.step0 G
  have le₂ := G.le
  have hfc := (fac_col hfac).up (le₁.trans le₂)
  refine for_k rfl F (src_range R.hd (by omega) hrr) (fun i μ m g => ∃ vs k o cols, μ = [(cl, lob vs k), (row, o)] ∧ RowObj o ∧ Cols w g vs cols ∧ cols.length = i + 1 ∧ (∀ bs ∈ cols, bs.length = many) ∧ SA w g m row many ts lev ∧ m "columns" = some (.ref cl) ∧ m "spots" = some (.ref sp))
    ⟨_, _, _, [(codesL ts lev).map Option.isNone], rfl, ro, ⟨rfl, fun i v bs h1 h2 => ?_⟩, rfl, fun bs hb => ?_, S0.move (by walk_at "up") (by walk_at "keep"), by walk_at "m", by walk_at "m"⟩
    (fun i p μ' m' g' h' t' u hi hu inv F le => ?_) (fun μ' m' g' h' t' F le inv => ?_)
  · cases i with
    | zero => simp at h1 h2; subst h1; subst h2; exact hfc
    | succ i => simp at h1
  · rw [List.mem_singleton] at hb; subst hb; unfold codesL; rw [List.length_map, List.length_map]; exact htl
  · obtain ⟨vs, k, o, cols, rfl, ro, hcols, lcols, hbs, S1, hm1, hm2⟩ := inv
    obtain ⟨hrow, ⟨tkm, hmany⟩, _, _, _⟩ := id S1
    refine wpAny_execs_cons ?_
    refine comp_assign rfl rfl ?_
    repeat walk_at "s"
    refine r_range F.sub fun r₂ g₃ h₃ t₃ x₂ y₂ z₂ hr₂ G hrr₂ => ?_
    have F := F.step0 G
    have le₃ := G.le
    refine comp_row_a (l1 := [p, (cl, lob vs k)]) rfl (fun _ => rfl) rfl rfl F (src_range R.hd (by omega) hrr₂) (by omega) (ro.at (F.led _ (.tail _ (.tail _ (.head _)))).1) (fun g y => ∃ b, Cell g "double" y b) (fun _ _ _ ⟨b, c⟩ s => ⟨b, c.up s⟩) (fun i C g₁ h₁ t₁ v E' hP X G hw hga hra => ?_) fun nn g₄ h₄ t₄ nv o₃ hnn F le₄ lN lenN hN rr => ?_
    · repeat walk_at "s"
      refine l_display ?_
      repeat walk_at "s"
      refine t_pair X fun r₁ g₂ h₂ t₂ a₁ b₁ G₂ l₂ => ?_
      have X₂ := X.step0 G₂
      repeat walk_at "s"
      refine t_pair X₂ fun r₂ g₃ h₃ t₃ a₂ b₂ G₃ l₃ => ?_
      have X₃ := X₂.step0 G₃
      repeat walk_at "s"
      refine t_pair X₃ fun r₃ g₄ h₄ t₄ a₃ b₃ G₄ l₄ => ?_
      have X₄ := X₃.step0 G₄
      repeat walk_at "s"
      refine t_pair X₄ fun r₄ g₅ h₅ t₅ a₄ b₄ G₅ l₅ => ?_
      have X₅ := X₄.step0 G₅
      repeat walk_at "s"
      refine ⟨by simp, _, _, _, rfl, X₅.sub, fun ll g₆ h₆ hll G₆ l₆ => ?_⟩
      have X₆ := X₅.step0 G₆
      have GG := (((G₂.trans G₃).trans G₄).trans G₅).trans G₆
      have hg6 := GG.out hga hra.ex.choose_spec
      have hr6 : RowAt h₆ row := hra.of fun o e => GG.keep0 _ _ e
      repeat walk_at "s"
      refine c_law_next R X₆.sub X₆.W hg6 hr6 fun g₇ h₇ t₇ i tk G7 hr7 => ?_
      have X7 := X₆.step G7 (fun b q => q ▸ hw)
      repeat walk_at "s"
      refine o_mod (by decide) fun _ _ => ?_
      obtain ⟨rr, hrr, hlt⟩ := fmod_nat i 5 (by decide)
      rw [show i.fmod 5 = (rr : Int) from hrr]
      have le₇ := G7.le
      have all : ∀ y ∈ [Value.ref r₁, .ref r₂, .none, .ref r₃, .ref r₄], ∃ b, Cell g₇ "double" y b := by
        intro y hy
        simp only [List.mem_cons, List.not_mem_nil, or_false] at hy
        rcases hy with rfl | rfl | rfl | rfl | rfl
        · exact cell_pair (tup_up l₂ ((((G₃.le.trans G₄.le).trans G₅.le).trans G₆.le).trans le₇))
        · exact cell_pair (tup_up l₃ (((G₄.le.trans G₅.le).trans G₆.le).trans le₇))
        · exact ⟨true, .inl ⟨rfl, rfl⟩⟩
        · exact cell_pair (tup_up l₄ ((G₅.le.trans G₆.le).trans le₇))
        · exact cell_pair (tup_up l₅ (G₆.le.trans le₇))
      obtain ⟨v, hv⟩ : ∃ v, [Value.ref r₁, .ref r₂, .none, .ref r₃, .ref r₄][rr]? = some v := ⟨[Value.ref r₁, .ref r₂, .none, .ref r₃, .ref r₄][rr]'(by simpa using hlt), by rw [List.getElem?_eq_getElem]⟩
      refine l_item (l₆.up (le₇.trans X7.sub)) rfl hv (by simp) ?_ (by with_unfolding_all rfl)
      exact ⟨_, _, _, rfl, (GG.of0).trans G7, hr7, all v (List.mem_of_getElem? hv)⟩
    · have ro := rr.obj (F.led _ (.tail _ (.tail _ (.head _)))).1
      obtain ⟨bs, hbsP⟩ := take_all hN
      repeat walk_at "s"
      refine call_meth_b PySem.F.plainAttrs_list PySem.F.slot_list_append PySem.F.type_list_append ?_
      repeat walk_at "s"
      refine ⟨⟨cl, _, rfl, (F.led _ (.tail _ (.head _))).1, rfl, rfl⟩, ?_⟩
      repeat walk_at "s"
      refine c_vec (at' := none) R F.sub F.W lN rfl (.inl ⟨rfl, rfl⟩) fun v g₅ h₅ t₅ hv G V => ?_
      have F := F.step0 G
      have le₅ := G.le
      obtain ⟨av, atv, hva, hvl, hvt⟩ := V
      have hlv : vs.length ≤ 1000 := by rw [hcols.1, lcols]; omega
      repeat walk_at "s"
      refine l_appN [p] F (by omega) fun h₆ k₆ F => ?_
      refine wpAny_execs_nil ?_
      have hcols' := hcols.up ((le₃.trans le₄).trans le₅)
      have lb := paired_len hbsP
      refine ⟨_, _, _, _, _, rfl, F, by walk_at "up", _, k₆, _, cols ++ [bs], rfl, ro, ⟨by rw [List.length_append, List.length_append, hcols.1]; rfl, fun j v' b' h1 h2 => ?_⟩, by rw [List.length_append, lcols]; rfl, fun b' hb' => ?_, S1.move (by walk_at "up") (by walk_at "keep"), by walk_at "m", by walk_at "m"⟩
      · by_cases hj : j < vs.length
        · rw [List.getElem?_append_left hj] at h1
          rw [List.getElem?_append_left (by rw [← hcols.1]; exact hj)] at h2
          exact hcols'.2 j v' b' h1 h2
        · have hj1 : j < (vs ++ [Value.ref v]).length := (List.getElem?_eq_some_iff.mp h1).1
          have hj2 : j = vs.length := by rw [List.length_append, List.length_singleton] at hj1; omega
          subst hj2
          rw [List.getElem?_append_right (Nat.le_refl _), Nat.sub_self] at h1
          rw [hcols.1, List.getElem?_append_right (Nat.le_refl _), Nat.sub_self] at h2
          have h1 : Value.ref v = v' := by simpa using h1
          have h2 : bs = b' := by simpa using h2
          subst h1; subst h2
          exact ⟨_, av, atv, nv, hva, hvl, lb.symm, fun i x b e1 e2 => (paired_at hbsP e1 e2).up le₅⟩
      · rcases List.mem_append.mp hb' with h | h
        · exact hbs b' h
        · rw [List.mem_singleton] at h; subst h; rw [lb]; exact lenN
  · obtain ⟨vs, k, o, cols, rfl, ro, hcols, lcols, hbs, S1, hm1, hm2⟩ := inv
    obtain ⟨F, hd, le₆⟩ := F.freeze
    exact next _ _ _ _ _ cl vs cols F ro (by walk_at "up") (S1.move le₆ (by walk_at "keep")) hm2 hm1 ⟨k, hd⟩ (hcols.up le₆) (by omega) hbs
end
end
section
set_option maxRecDepth 100000
set_option maxHeartbeats 8000000
open PySem PySem.W PySem.Calls PyProof.Rows
open PySem.SeqAt (EqAt RcAt)
section
variable {w : World} {A : Around} {E : Value → Shared → Prop} {env : Env} {g h g₀ h₀ g' h' : Heap} {gs : Array GenState} {dr : Drawn} {t : Nat} {os : OsState} {m : Str → Option Value} {n : Nat} {wr : Addr → Prop} {μ : List (Addr × Obj)}

theorem segD {L : Addr} {row sp cl : Addr} {o : Obj} {many : Nat} {ts : List (Option Str)} {lev : List Str} {sv vs : List Value} {ps : List Nat} {cols : List (List Bool)}
    (R : Room A 8) (hfr : A.frames = some [lawEnv w L]) (F : Fn w NoW g₀ h₀ (lawEnv w L) [(row, o)] m g h) (S : SA w g m row many ts lev) (P : PA many ts lev) (hsp : m "spots" = some (.ref sp)) (lS : Lst g sp sv) (eS : sv.map er = ps.map eN) (hps : ∀ p ∈ ps, p < many) (hpl : ps.length ≤ 9)
    (hcl : m "columns" = some (.ref cl)) (lC : Lst g cl vs) (hC : Cols w g vs cols) (hcn : cols.length ≤ 5) (hcl2 : ∀ bs ∈ cols, bs.length = many)
    (next : ∀ m' g' h' t', Fn w NoW g₀ h₀ (lawEnv w L) [(row, o)] m' g' h' → Sub g g' → SA w g' m' row many ts lev → m' "spots" = some (.ref sp) →
      wpAny (model PR w) A (execs ((lawS w).1.drop 17) (lawEnv w L)) (LQ gs dr os h₀) E ⟨h', gs, dr, t', os⟩) :
    wpAny (model PR w) A (execs ((lawS w).1.drop 16) (lawEnv w L)) (LQ gs dr os h₀) E ⟨h, gs, dr, t, os⟩ := by
  have hle := P.le9
  have lens := len_map eS
  show wpAny _ _ (execs (_ :: _) _) _ _ _
  refine wpAny_execs_cons (for_stmt (l_display ?_))
  repeat walk_at "s"
  refine ⟨by simp, _, _, _, rfl, F.sub, fun ll g₁ h₁ hll G l₁ => ?_⟩
  have F := F.step0 G
  have le₁ := G.le
  refine for_k rfl F (src_list R.hd F.sub l₁) (fun i μ m g => μ = [(row, o)] ∧ SA w g m row many ts lev ∧ m "spots" = some (.ref sp) ∧ m "columns" = some (.ref cl))
    ⟨rfl, S.move (by walk_at "up") (by walk_at "keep"), hsp, hcl⟩
    (fun i p μ' m' g' h' t' u hi hu inv F le => ?_) (fun μ' m' g' h' t' F le inv => ?_)
  · obtain ⟨rfl, S1, hm1, hm2⟩ := inv
    obtain ⟨hrow, ⟨tkm, hmany⟩, _, _, _⟩ := id S1
    obtain ⟨act, tka, rfl⟩ : ∃ act tka, u = .str act tka := by
      have hmem := List.mem_of_getElem? hu
      simp only [List.mem_cons, List.not_mem_nil, or_false] at hmem
      rcases hmem with h | h | h <;> exact ⟨_, _, h⟩
    refine wpAny_execs_cons (wpAny_mono (Q := fun fl s' => fl = .next ∧ ∃ g'' h'' t'' m'', s' = ⟨h'', gs, dr, t'', os⟩ ∧ Fn w NoW g₀ h₀ (lawEnv w L) [p, (row, o)] m'' g'' h'' ∧ SA w g'' m'' row many ts lev ∧ m'' "spots" = some (.ref sp) ∧ m'' "columns" = some (.ref cl) ∧ m'' "action" = some (.str act tka) ∧ Sub g' g'' ∧
      ((∃ b ys qs, m'' "told" = some (.ref b) ∧ Lst g'' b ys ∧ ys.map er = (qs : List Nat).map eN ∧ keptRows cols ps act = some qs) ∨ (∃ e tk, m'' "told" = some (.ref e) ∧ ExcF g'' e (.str naMsg tk) ∧ keptRows cols ps act = none))) ?_ (fun fl s' q => ?_) fun _ _ z => z)
    · refine try_stmt ?_
      repeat walk_at "s"
      refine c_kept_rows R hfr (F.frok rfl) F.sub F.W (lC.up (by walk_at "up")) (hC.up (by walk_at "up")) (by omega) (by omega) hcl2 (lS.up (by walk_at "up")) eS hps (by omega) (fun b g₅ h₅ t₅ ys qs G lY eY hqs => ?_) fun e h₅ t₅ tk hnone T => ?_
      · have F := F.step0 G
        have le₅ := G.le
        repeat walk_at "s"
        rename Fn _ _ _ _ _ _ _ _ _ => F
        refine wpAny_execs_nil ⟨rfl, _, _, _, _, rfl, F, S1.move (by walk_at "up") (by walk_at "keep"), by walk_at "m", by walk_at "m", by walk_at "m", by walk_at "up", .inl ⟨b, ys, qs, by walk_at "m", lY, eY, hqs⟩⟩
      · refine try_caught hfr rfl F T rfl rfl (by decide) rfl rfl fun g₅ h₅ t₅ v F le₅ X => ?_
        exact ⟨rfl, _, _, _, _, rfl, F, S1.move (by walk_at "up") (by walk_at "keep"), by walk_at "m", by walk_at "m", by walk_at "m", by walk_at "up", .inr ⟨e, tk, by walk_at "m", X, hnone⟩⟩
    clear F S1 hrow hmany hm1 hm2
    obtain ⟨rfl, g₅, h₅, t₅, m₅, rfl, F, S1, hm1, hm2, hm3, le₅, hT⟩ := q
    obtain ⟨hrow, ⟨tkm, hmany⟩, _, _, _⟩ := id S1
    rcases hT with ⟨b, ys, qs, htold, lY, eY, hqs⟩ | ⟨e, tk, htold, X, hnone⟩
    · repeat walk_at "s"
      refine c_law_kept R F.sub F.W (lC.up (by walk_at "up")) (hC.up (by walk_at "up")) (by omega) (by omega) hcl2 (lS.up (by walk_at "up")) eS hps (by omega) (fun b₂ g₆ h₆ t₆ zs qs₂ G lZ eZ hqs₂ => ?_) fun g₆ h₆ t₆ tk G hnone => ?_
      · rw [hqs] at hqs₂; cases hqs₂
        have F := F.step0 G
        have le₆ := G.le
        repeat walk_at "s"
        refine c_law_asked_lst R F.sub F.W (lY.up (by walk_at "up")) (lZ.up (by walk_at "up")) (flats (f := eN) (fun _ _ => flat_eN) eY) (flats (f := eN) (fun _ _ => flat_eN) eZ) fun g₇ h₇ t₇ G => ?_
        rw [eY, eZ, decide_eq_true rfl]
        have F := F.step0 G
        have le₇ := G.le
        repeat walk_at "s"
        refine ite_f rfl ?_
        refine wpAny_execs_nil (wpAny_execs_nil ?_)
        exact ⟨_, _, _, _, _, rfl, F, by walk_at "up", rfl, S1.move (by walk_at "up") (by walk_at "keep"), hm1, hm2⟩
      · rw [hqs] at hnone; cases hnone
    · repeat walk_at "s"
      refine c_law_kept R F.sub F.W (lC.up (by walk_at "up")) (hC.up (by walk_at "up")) (by omega) (by omega) hcl2 (lS.up (by walk_at "up")) eS hps (by omega) (fun b₂ g₆ h₆ t₆ zs qs₂ G lZ eZ hqs₂ => ?_) fun g₆ h₆ t₆ tk G _ => ?_
      · rw [hnone] at hqs₂; cases hqs₂
      · have F := F.step0 G
        have le₆ := G.le
        repeat walk_at "s"
        refine c_law_asked_exc R F.sub F.W (X.up (by walk_at "up")) fun g₇ h₇ t₇ G => ?_
        have F := F.step0 G
        have le₇ := G.le
        repeat walk_at "s"
        refine ite_f (by simp) ?_
        refine wpAny_execs_nil (wpAny_execs_nil ?_)
        exact ⟨_, _, _, _, _, rfl, F, by walk_at "up", rfl, S1.move (by walk_at "up") (by walk_at "keep"), hm1, hm2⟩
  · obtain ⟨rfl, S1, hm1, hm2⟩ := inv
    exact next _ _ _ _ F (by walk_at "up") S1 hm1
end
end
section
set_option maxRecDepth 100000
set_option maxHeartbeats 8000000
open PySem PySem.W PySem.Calls PyProof.Rows
open PySem.SeqAt (EqAt RcAt)
def headN (i : Nat) : Str := ("r" : Str) ++ strN (i % 4)
theorem headN_len (i : Nat) : (headN i).length ≤ 100 := by
  have : ∀ k, k < 4 → (("r" : Str) ++ strN k).length ≤ 100 := by
    intro k hk
    have : k = 0 ∨ k = 1 ∨ k = 2 ∨ k = 3 := by omega
    rcases this with rfl | rfl | rfl | rfl <;> decide
  exact this _ (Nat.mod_lt _ (by decide))
theorem getD_er {α : Type} {xs : List Value} {ts : List α} {f : α → Value} (e : xs.map er = ts.map f) {p : Nat} {t : α} (h : ts[p]? = some t) : er (xs.getD p .none) = f t := by
  obtain ⟨v, hv, ev⟩ := at_map e h
  rw [List.getD_eq_getElem?_getD, hv]; exact ev
theorem range_at {n p : Nat} (h : p < n) : (List.range n)[p]? = some p := List.getElem?_range h

section
variable {w : World} {A : Around} {E : Value → Shared → Prop} {env : Env} {g h g₀ h₀ g' h' : Heap} {gs : Array GenState} {dr : Drawn} {t : Nat} {os : OsState} {m : Str → Option Value} {n : Nat} {wr : Addr → Prop} {μ : List (Addr × Obj)}

theorem va_nm {nv : Value} : valueAt [(("names" : Str), nv)] ("names" : Str) = some nv := by simp [valueAt]

theorem comp_pick {α : Type} {x src sps : Str} {p1 p2 p3 p4 px pos : Pos} {scope : Scope} {as sp : Addr} {vs sv : List Value} {us : List α} {f : α → Value} {d : α} {ps : List Nat} {Q : Value → Shared → Prop} (R : Room A n) (F : Fn w wr g₀ h₀ env μ m g h) (lA : Lst g as vs) (eA : vs.map er = us.map f) (hus : us.length ≤ 1000) (lS : Lst g sp sv) (eS : sv.map er = ps.map eN) (hlt : ∀ p ∈ ps, p < us.length) (hpl : ps.length ≤ 1000)
    (hm : m src = some (.ref as)) (hms : m sps = some (.ref sp)) (hok : compOk scope env = true) (hx : ∀ C, isLocal (cenvOf scope env C) x = true) (hxc : (clOf env scope.names []).lookup x = none) (hsrc : ∀ C, isCellN (cenvOf scope env C) src = true) (hcap : ((clOf env scope.names []).lookup src).isSome = true) (hne : src ≠ x) (hsl : isLocal env sps = true)
    (q : ∀ D g' h' t' ys, Fn w wr g₀ h₀ env μ m g' h' → Sub g g' → Lst g' D ys → ys.map er = (ps.map (fun p => us.getD p d)).map f → Q (.ref D) ⟨h', gs, dr, t', os⟩) :
    wpAny (model PR w) A (eval (.ListComp (.Subscript (.Name src p1) (.Name x p2) p3) [⟨.Name x px, .Name sps p4, [], 0⟩] scope pos) env) Q E ⟨h, gs, dr, t, os⟩ := by
  have lens := len_map eS
  have lenv := len_map eA
  refine comp_expr hok (x_loc F.toEx hsl hms ?_)
  refine comp_gen hok (fun C => by rw [hx C]; rfl) hxc F (src_list R.hd F.sub lS) (by omega) ps lens.symm (fun _ => true) (fun p => f (us.getD p d)) (fun i p C g₁ h₁ t₁ v E' ha hP X G => ?_) fun D g' h' t' ys hD F le lD eD => q D g' h' t' ys F le lD (by rw [eD, List.filter_eq_self.mpr (fun _ _ => rfl)]; exact mm (fun p => us.getD p d) f ps)
  obtain ⟨a', ha', e⟩ := map_at eS hP
  rw [ha] at ha'; cases ha'
  obtain ⟨tk, rfl⟩ := er_int e
  refine tests_nil ⟨rfl, _, _, _, rfl, Grow.refl X.sub, fun _ => ?_⟩
  have hcm : capt (clOf env scope.names []) m src = some (.ref as) := by unfold capt; rw [if_pos hcap]; exact hm
  refine Subscript_ (x_cell X (hsrc C) ((upd_ne hne).trans hcm) (x_loc X (hx C) upd_self ?_))
  obtain ⟨u, hu⟩ : ∃ u, us[p]? = some u := ⟨us[p]'(hlt p (List.mem_of_getElem? ha)), by rw [List.getElem?_eq_getElem]⟩
  obtain ⟨vv, hv, ev⟩ := at_map eA hu
  refine l_item (lA.up (G.le.trans X.sub)) rfl hv (by omega) ?_ (by with_unfolding_all rfl)
  exact ⟨by rw [ev, List.getD_eq_getElem?_getD, hu]; rfl, _, _, _, rfl, Grow.refl X.sub⟩

theorem segE {L : Addr} {row sp : Addr} {o : Obj} {many : Nat} {ts : List (Option Str)} {lev : List Str} {sv : List Value} {ps : List Nat}
    (R : Room A 8) (F : Fn w NoW g₀ h₀ (lawEnv w L) [(row, o)] m g h) (S : SA w g m row many ts lev) (P : PA many ts lev) (hsp : m "spots" = some (.ref sp)) (lS : Lst g sp sv) (eS' : sv.map er = ps.map eN) (hps : ∀ p ∈ ps, p < many) (hpl : ps.length ≤ 9)
    (next : ∀ m' g' h' t', Fn w NoW g₀ h₀ (lawEnv w L) [(row, o)] m' g' h' → Sub g g' → SA w g' m' row many ts lev → m' "spots" = some (.ref sp) →
      wpAny (model PR w) A (execs ((lawS w).1.drop 22) (lawEnv w L)) (LQ gs dr os h₀) E ⟨h', gs, dr, t', os⟩) :
    wpAny (model PR w) A (execs ((lawS w).1.drop 17) (lawEnv w L)) (LQ gs dr os h₀) E ⟨h, gs, dr, t, os⟩ := by
  have S0 := S
  obtain ⟨hrow, ⟨tkm, hmany⟩, _, _, _⟩ := S
  have hle := P.le9
  have lens := len_map eS'
  show wpAny _ _ (execs (_ :: _) _) _ _ _
  refine wpAny_execs_cons (wpAny_Assign_Name ?_ (by with_unfolding_all rfl))
  refine comp_expr rfl ?_
  repeat walk_at "s"
  refine r_range F.sub fun r g₁ h₁ t₁ x y z hr G hrr => ?_
  have F := F.step0 G
  have le₁ := G.le
  refine comp_gen rfl (fun _ => rfl) rfl F (src_range R.hd (by omega) hrr) (by omega) (List.range many) (by simp) (fun _ => true) (fun i => eS (headN i)) (fun i o' C g₁ h₁ t₁ u E' hap hP X G => ?_) fun rw₁ g₂ h₂ t₂ rv hrw F le₂ lR eR => ?_
  · obtain ⟨tu, rfl⟩ := hP
    have hia : o' = i := by have := List.getElem?_eq_some_iff.mp hap; obtain ⟨_, e⟩ := this; simpa using e.symm
    subst hia
    refine tests_nil ⟨rfl, _, _, _, rfl, Grow.refl X.sub, fun _ => ?_⟩
    repeat walk_at "s"
    refine o_mod (by decide) fun _ _ => ?_
    have em : (o' : Int).fmod 4 = ((o' % 4 : Nat) : Int) := by
      rw [Int.fmod_eq_emod_of_nonneg _ (by decide)]; omega
    rw [em]
    repeat walk_at "s"
    refine o_str (by omega) (by omega) fun _ _ => ?_
    have hsl := strN_len (c := o' % 4) (by omega)
    have l1 : (Str.ofString "r").length = 1 := rfl
    refine o_sadd (by unfold strN at hsl; omega) fun _ _ => ?_
    exact ⟨rfl, _, _, _, rfl, Grow.refl X.sub⟩
  rw [List.filter_eq_self.mpr (fun _ _ => rfl)] at eR
  have lenR := len_map eR
  rw [List.length_range] at lenR
  repeat walk_at "s"
  rename Fn _ _ _ _ _ _ _ _ _ => F
  refine r_range F.sub fun r₂ g₃ h₃ t₃ x₂ y₂ z₂ hr₂ G hrr₂ => ?_
  have F := F.step0 G
  have le₃ := G.le
  repeat walk_at "s"
  refine c_list_range R.hd F.sub hrr₂ (by omega) fun li g₄ h₄ t₄ lv hli G lL eL => ?_
  have F := F.step0 G
  have le₄ := G.le
  have lenL := len_map eL
  rw [List.length_range] at lenL
  repeat walk_at "s"
  refine d_disp1 F fun d h₅ t₅ hsy F => ?_
  repeat walk_at "s"
  refine c_vec (at' := none) R F.sub F.W (lR.up (by walk_at "up")) rfl (.inl ⟨rfl, rfl⟩) fun nv g₆ h₆ t₆ hnv G Vn => ?_
  have F := F.step0 G
  have le₆ := G.le
  refine ⟨(F.led _ (.head _)).1, fun h₇ o₇ S₇ e₇ i₇ t₇ => ?_⟩
  have F := F.mut1 S₇.extBut e₇
  obtain ⟨F, hd, le₇⟩ := F.freeze
  have D : Dct (sK w) (plus g₆ h₇ fun b => b = d) d [(("names" : Str), .ref nv)] := ⟨Heap.dictOf_iff.mpr ⟨o₇, hd, i₇⟩, hsy⟩
  repeat walk_at "s"
  refine c_vec (at' := some [(("names" : Str), .ref nv)]) R F.sub F.W (lL.up (by walk_at "up")) ⟨d, rfl, D⟩ (.inr rfl) fun cv g₈ h₈ t₈ hcv G Vc => ?_
  have F := F.step0 G
  have le₈ := G.le
  obtain ⟨ac, atc, hvc, hlc, hac⟩ := Vc
  obtain ⟨an, atn, hvn, hln, han⟩ := Vn
  repeat walk_at "s"
  rename Fn _ _ _ _ _ _ _ _ _ => F
  refine c_taken_rows (ns := rv) R F.sub F.W hvc hlc hac (lS.up (by walk_at "up")) eS' (by omega) (fun p hp => by rw [lenL]; exact hps p hp) (by omega) (by simp) (by simp) (by simp) (fun p hp => by
      rw [List.mem_singleton] at hp; subst hp; exact ⟨show ("names" : Str) ≠ "dim" by decide, show ("names" : Str) ≠ "dimnames" by decide⟩) (fun nv' hp => by
      rw [List.mem_singleton, Prod.mk.injEq] at hp; obtain ⟨_, rfl⟩ := hp
      exact ⟨rfl, rfl, _, an, atn, hvn.up (by walk_at "up"), hln.up (by walk_at "up"), by rw [lenR, lenL]⟩) fun tv g₉ h₉ t₉ ys kvs' htv G Vt eY hK => ?_
  have F := F.step0 G
  have le₉ := G.le
  obtain ⟨at₁, att, hvt, hlt, hat⟩ := Vt
  obtain ⟨u', rfl, us, Vu, eU⟩ : ∃ u', kvs' = [(("names" : Str), u')] ∧ ∃ us, Vec w g₉ u' "character" us none ∧ us.map er = ps.map fun p => er (rv.getD p .none) := by
    cases hK with
    | cons a b =>
      cases b
      obtain ⟨e1, e2⟩ := a
      rename_i y
      obtain ⟨k, u'⟩ := y
      have e1 : k = "names" := e1
      subst e1
      rcases e2 with ⟨e, _⟩ | ⟨_, us, V, e⟩
      · exact absurd rfl e
      · exact ⟨u', rfl, us, V, e⟩
  have eY : ys.map er = ps.map eN := by
    rw [eY]
    exact List.map_congr_left fun p hp => getD_er eL (range_at (hps p hp))
  have eU : us.map er = (ps.map headN).map eS := by
    rw [eU, List.map_map]
    exact List.map_congr_left fun p hp => getD_er eR (range_at (hps p hp))
  obtain ⟨au, atu, hvu, hlu, hau⟩ := Vu
  obtain ⟨dt, rfl, Dt⟩ := hat
  repeat walk_at "s"
  rename Fn _ _ _ _ _ _ _ _ _ => F
  refine vec_items F.Wh (hvt.up (by walk_at "up")) fun _ => ?_
  repeat walk_at "s"
  refine l_ne R (hlt.up (by walk_at "up")) (lS.up (by walk_at "up")) (flats (f := eN) (fun _ _ => flat_eN) eY) (flats (f := eN) (fun _ _ => flat_eN) eS') ?_
  rw [eY, eS', decide_eq_true rfl]
  repeat walk_at "s"
  refine ite_f rfl ?_
  repeat walk_at "s"
  refine vec_attrs F.Wh (hvt.up (by walk_at "up")) fun _ => ?_
  repeat walk_at "s"
  refine d_item (knd := sK w) (k := ("names" : Str)) (Dt.up (by walk_at "up")).1 (by simp [sK, PySem.strKind, Value.isStrOf]) va_nm (fun _ => ?_) (by with_unfolding_all rfl)
  repeat walk_at "s"
  refine vec_items F.Wh (hvu.up (by walk_at "up")) fun _ => ?_
  repeat walk_at "s"
  have hget : (ps.map fun p => ((List.range many).map headN).getD p "") = ps.map headN := List.map_congr_left fun p hp => by
    rw [List.getD_eq_getElem?_getD, List.getElem?_map, range_at (hps p hp)]; rfl
  have eR : rv.map er = ((List.range many).map headN).map eS := by rw [eR, List.map_map]; rfl
  have hlr : ((List.range many).map headN).length = many := by simp
  refine comp_pick (f := eS) (d := "") R F (lR.up (by walk_at "up")) eR (by omega) (lS.up (by walk_at "up")) eS' (by rw [hlr]; exact hps) (by omega) (by walk_at "m") (by walk_at "m") rfl (fun _ => rfl) rfl (fun _ => rfl) rfl (by decide) rfl fun D g₁₀ h₁₀ t₁₀ zs F le₁₀ lZ eZ => ?_
  rw [hget] at eZ
  refine l_ne R (hlu.up (by walk_at "up")) (lZ.up (by walk_at "up")) (flats (f := eS) (fun _ _ => flat_eS) eU) (flats (f := eS) (fun _ _ => flat_eS) eZ) ?_
  rw [eU, eZ, decide_eq_true rfl]
  repeat walk_at "s"
  refine ite_f rfl ?_
  repeat walk_at "s"
  refine ite_f rfl ?_
  refine wpAny_execs_nil ?_
  repeat walk_at "s"
  refine comp_pick (f := eS) (d := "") R F (lR.up (by walk_at "up")) eR (by omega) (lS.up (by walk_at "up")) eS' (by rw [hlr]; exact hps) (by omega) (by walk_at "m") (by walk_at "m") rfl (fun _ => rfl) rfl (fun _ => rfl) rfl (by decide) rfl fun D₁ g₁₁ h₁₁ t₁₁ zs₁ F le₁₁ lZ₁ eZ₁ => ?_
  rw [hget] at eZ₁
  have hhl : ∀ s ∈ ps.map headN, s.length ≤ 100 := fun s hs => by obtain ⟨p, _, rfl⟩ := List.mem_map.mp hs; exact headN_len p
  have hhn : (ps.map headN).length ≤ 100 := by rw [List.length_map]; omega
  repeat walk_at "s"
  refine c_unique_heads R F.sub F.W lZ₁ eZ₁ hhn hhl fun D₂ g₁₂ h₁₂ t₁₂ us₂ G lU₂ eU₂ => ?_
  have F := F.step0 G
  have le₁₂ := G.le
  repeat walk_at "s"
  refine comp_pick (f := eS) (d := "") R F (lR.up (by walk_at "up")) eR (by omega) (lS.up (by walk_at "up")) eS' (by rw [hlr]; exact hps) (by omega) (by walk_at "m") (by walk_at "m") rfl (fun _ => rfl) rfl (fun _ => rfl) rfl (by decide) rfl fun D₃ g₁₃ h₁₃ t₁₃ zs₃ F le₁₃ lZ₃ eZ₃ => ?_
  rw [hget] at eZ₃
  repeat walk_at "s"
  refine c_law_heads R F.sub F.W lZ₃ eZ₃ hhn hhl fun D₄ g₁₄ h₁₄ t₁₄ us₄ G lU₄ eU₄ => ?_
  have F := F.step0 G
  have le₁₄ := G.le
  refine l_ne R (lU₂.up (by walk_at "up")) (lU₄.up (by walk_at "up")) (flats (f := eS) (fun _ _ => flat_eS) eU₂) (flats (f := eS) (fun _ _ => flat_eS) eU₄) ?_
  rw [eU₂, eU₄, decide_eq_true rfl]
  repeat walk_at "s"
  refine ite_f rfl ?_
  refine wpAny_execs_nil ?_
  exact next _ _ _ _ F (by walk_at "up") (S0.move (by walk_at "up") (by walk_at "keep")) (by walk_at "m")
end
end
section
set_option maxRecDepth 100000
set_option maxHeartbeats 8000000
open PySem PySem.W PySem.Calls PyProof.Rows
open PySem.SeqAt (EqAt RcAt)
theorem filter_map_range {lev : List Str} {p : Str → Bool} {q : Nat → Bool} (h : ∀ j s, lev[j]? = some s → q j = p s) : ((List.range lev.length).filter q).map (fun j => lev.getD j "") = lev.filter p := by
  have e : lev = (List.range lev.length).map fun j => lev.getD j "" := by
    apply List.ext_getElem?
    intro j
    rw [List.getElem?_map]
    by_cases hj : j < lev.length
    · rw [List.getElem?_range hj]; simp [hj]
    · rw [List.getElem?_eq_none (by omega), List.getElem?_eq_none (by simpa using hj)]; rfl
  conv => rhs; rw [e]
  rw [List.filter_map]
  congr 1
  apply List.filter_congr
  intro j hj
  have hj : j < lev.length := by simpa using hj
  have h1 : lev[j]? = some lev[j] := by rw [List.getElem?_eq_getElem]
  rw [h j _ h1]
  show p lev[j] = p (lev.getD j "")
  rw [List.getD_eq_getElem?_getD, h1]; rfl
theorem used_eq {cs : List (Option Int)} {lev : List Str} (ok : OkCs cs lev) (hn : lev.Nodup) : usedLev cs lev = lev.filter fun s => (told cs lev).contains (some s) := by
  unfold usedLev usedUp
  refine filter_map_range fun j s hj => ?_
  unfold usedAt
  rw [Bool.eq_iff_iff, List.contains_iff_mem, List.contains_iff_mem]
  unfold told
  rw [List.mem_map]
  constructor
  · intro h
    refine ⟨_, h, ?_⟩
    show some (lev.getD ((j : Int) + 1 - 1).toNat "") = some s
    have : ((j : Int) + 1 - 1).toNat = j := by omega
    rw [this, List.getD_eq_getElem?_getD, hj]; rfl
  · rintro ⟨o, ho, e⟩
    cases o with
    | none => cases e
    | some i =>
      obtain ⟨h1, h2⟩ := ok i ho
      have e : lev.getD (i - 1).toNat "" = s := Option.some.inj e
      have hlt : (i - 1).toNat < lev.length := by omega
      have h3 : lev[(i - 1).toNat]? = some s := by
        rw [List.getElem?_eq_getElem hlt]; rw [List.getD_eq_getElem?_getD, List.getElem?_eq_getElem hlt] at e; exact congrArg some e
      have := nodup_inj hn h3 hj
      have : (j : Int) + 1 = i := by omega
      rw [this]; exact ho
theorem eT_beq {a : Option Str} {b : Str} : (eT a == Value.str b 0) = (a == some b) := by
  cases a <;> rw [Bool.eq_iff_iff] <;> simp [eT]
theorem any_eT {xs : List Value} {ts : List (Option Str)} {s : Str} (e : xs.map er = ts.map eT) : (xs.any fun y => er y == Value.str s 0) = ts.contains (some s) := by
  rw [any_er e]
  have : (fun t => eT t == Value.str s 0) = fun t => t == some s := by funext t; exact eT_beq
  rw [this]; exact List.any_beq'

section
variable {w : World} {A : Around} {E : Value → Shared → Prop} {env : Env} {g h g₀ h₀ g' h' : Heap} {gs : Array GenState} {dr : Drawn} {t : Nat} {os : OsState} {m : Str → Option Value} {n : Nat} {wr : Addr → Prop} {μ : List (Addr × Obj)}

/-- rows of a factor -/
theorem c_taken_fac {v : Value} {cs : List (Option Int)} {lev : List Str} {b : Addr} {rs : List Value} {ps : List Nat} {Q : Value → Shared → Prop} (R : Room A (n+5)) (sub : Sub g h) (W : Wd w g) (hf : Fac w g v cs lev) (hok : OkCs cs lev)
    (hlr : Lst g b rs) (hr : rs.map er = ps.map eN) (hps : ps.length ≤ 100) (hp : ∀ p ∈ ps, p < cs.length) (hcs : cs.length ≤ 100)
    (q : ∀ x g' h' t' cs', h.get? x = none → Grow NoW g h g' h' → Fac w g' (.ref x) cs' lev → OkCs cs' lev → cs'.length = ps.length → told cs' lev = ps.map (fun p => (told cs lev).getD p none) → Q (.ref x) ⟨h', gs, dr, t', os⟩) :
    wpAny (model PR w) A (call (.ref 156) [v, .ref b]) Q E ⟨h, gs, dr, t, os⟩ := by
  obtain ⟨ys, lv, cv, ls, cls, ⟨a, attrs, hv, hl, ha⟩, eys, hlv, els, hcv, ecl⟩ := hf
  have lenc := len_map eys
  refine c_taken_rows (ns := []) R sub W hv hl ha hlr hr hps (fun p h => by rw [lenc]; exact hp p h) (by omega) (by
      simp only [List.map_cons, List.map_nil, List.nodup_cons, List.mem_singleton, List.not_mem_nil, not_false_eq_true, List.nodup_nil, and_true]; decide) (by simp) (by simp) (fun p hp => by
      simp only [List.mem_cons, List.not_mem_nil, or_false] at hp
      rcases hp with rfl | rfl
      · exact ⟨show (("levels" : Str)) ≠ "dim" by decide, show (("levels" : Str)) ≠ "dimnames" by decide⟩
      · exact ⟨show (("class" : Str)) ≠ "dim" by decide, show (("class" : Str)) ≠ "dimnames" by decide⟩) (fun nv hp => by
      simp only [List.mem_cons, List.not_mem_nil, or_false, Prod.mk.injEq] at hp
      rcases hp with ⟨h, _⟩ | ⟨h, _⟩
      · exact absurd h (show ¬ (("names" : Str)) = "levels" by decide)
      · exact absurd h (show ¬ (("names" : Str)) = "class" by decide)) fun x g' h' t' zs kvs' hx G V eZ hK => ?_
  have hk : kvs' = [(("levels" : Str), lv), (("class" : Str), cv)] := by
    cases hK with
    | cons a b =>
      cases b with
      | cons a₂ b₂ =>
        cases b₂
        rename_i y y₂
        obtain ⟨k, u⟩ := y; obtain ⟨k₂, u₂⟩ := y₂
        obtain ⟨e1, e2⟩ := a
        obtain ⟨e3, e4⟩ := a₂
        have e1 : k = "levels" := e1
        have e3 : k₂ = "class" := e3
        subst e1; subst e3
        have e2 : u = lv := e2.elim (fun h => h.2) fun h => absurd h.1 (show ¬ (("levels" : Str)) = "names" by decide)
        have e4 : u₂ = cv := e4.elim (fun h => h.2) fun h => absurd h.1 (show ¬ (("class" : Str)) = "names" by decide)
        rw [e2, e4]
  subst hk
  have sg := G.le
  have key : ∀ p ∈ ps, ∃ o, cs[p]? = some o := fun p h => ⟨cs[p]'(hp p h), by rw [List.getElem?_eq_getElem]⟩
  refine q x g' h' t' (ps.map fun p => cs.getD p none) hx G ⟨zs, lv, cv, ls, cls, V, ?_, hlv.up sg, els, hcv.up sg, ecl⟩ (fun i hi => ?_) (by rw [List.length_map]) ?_
  · rw [eZ, List.map_map]
    refine List.map_congr_left fun p h => ?_
    obtain ⟨o, ho⟩ := key p h
    rw [getD_er eys ho]
    show eO o = eO (cs.getD p none)
    rw [List.getD_eq_getElem?_getD, ho]; rfl
  · obtain ⟨p, h, e⟩ := List.mem_map.mp hi
    obtain ⟨o, ho⟩ := key p h
    rw [List.getD_eq_getElem?_getD, ho] at e
    have e : o = some i := e
    exact hok i (e ▸ List.mem_of_getElem? ho)
  · unfold told
    rw [List.map_map]
    refine List.map_congr_left fun p h => ?_
    obtain ⟨o, ho⟩ := key p h
    show (cs.getD p none).map _ = _
    rw [List.getD_eq_getElem?_getD, List.getD_eq_getElem?_getD, List.getElem?_map, ho]; rfl

theorem segF {L : Addr} {row sp : Addr} {o : Obj} {many : Nat} {ts : List (Option Str)} {lev : List Str} {sv : List Value} {ps : List Nat}
    (R : Room A 8) (F : Fn w NoW g₀ h₀ (lawEnv w L) [(row, o)] m g h) (S : SA w g m row many ts lev) (P : PA many ts lev) (hsp : m "spots" = some (.ref sp)) (lS : Lst g sp sv) (eS' : sv.map er = ps.map eN) (hps : ∀ p ∈ ps, p < many) (hpl : ps.length ≤ 9)
    (next : ∀ m' g' h' t', Fn w NoW g₀ h₀ (lawEnv w L) [(row, o)] m' g' h' → Sub g g' → SA w g' m' row many ts lev →
      wpAny (model PR w) A (execs ((lawS w).1.drop 29) (lawEnv w L)) (LQ gs dr os h₀) E ⟨h', gs, dr, t', os⟩) :
    wpAny (model PR w) A (execs ((lawS w).1.drop 22) (lawEnv w L)) (LQ gs dr os h₀) E ⟨h, gs, dr, t, os⟩ := by
  have S0 := S
  obtain ⟨hrow, ⟨tkm, hmany⟩, ⟨ww, wv, hww, lW, eW⟩, ⟨fv, hfv, hfac⟩, ⟨dd, dv, hdd, lD, eD⟩⟩ := S
  have hle := P.le9
  have htl := P.texts.1
  have hll := P.len
  have lens := len_map eS'
  have lcs : (codesL ts lev).length = ts.length := by unfold codesL; rw [List.length_map]
  have tcs := told_codes (ts := ts) (nl := lev) fun s hs => (P.mem s).mp hs
  have okc := okCs_codes (ts := ts) (nl := lev) fun s hs => (P.mem s).mp hs
  show wpAny _ _ (execs (_ :: _) _) _ _ _
  repeat walk_at "s"
  refine c_taken_fac R F.sub F.W hfac okc lS eS' (by omega) (fun p hp => by rw [lcs, htl]; exact hps p hp) (by omega) fun pv g₁ h₁ t₁ cs' hpv G hfac' okc' lcs' tcs' => ?_
  rw [tcs] at tcs'
  have F := F.step0 G
  have le₁ := G.le
  have lnow : (told cs' lev).length = ps.length := by unfold told; rw [List.length_map]; exact lcs'
  repeat walk_at "s"
  rename Fn _ _ _ _ _ _ _ _ _ => F
  refine comp_pick (f := eT) (d := none) R F (lW.up (by walk_at "up")) eW (by omega) (lS.up (by walk_at "up")) eS' (by rw [htl]; exact hps) (by omega) (by walk_at "m") (by walk_at "m") rfl (fun _ => rfl) rfl (fun _ => rfl) rfl (by decide) rfl fun nw g₂ h₂ t₂ nv F le₂ lN eN' => ?_
  rw [← tcs'] at eN'
  repeat walk_at "s"
  rename Fn _ _ _ _ _ _ _ _ _ => F
  refine c_law_told R F.sub F.W (hfac'.up (by walk_at "up")) okc' (by omega) (by omega) fun tw g₃ h₃ t₃ tv G lT eT' => ?_
  have F := F.step0 G
  have le₃ := G.le
  repeat walk_at "s"
  refine l_ne R (lT.up (by walk_at "up")) (lN.up (by walk_at "up")) (flats (f := eT) (fun _ _ => flat_eT) eT') (flats (f := eT) (fun _ _ => flat_eT) eN') ?_
  rw [eT', eN', decide_eq_true rfl]
  repeat walk_at "s"
  refine ite_f rfl ?_
  repeat walk_at "s"
  have hfac'0 := hfac'
  obtain ⟨ys, lv, cv, ls, cls, ⟨af, attrs, hv, hl', ha⟩, eys, ⟨alv, atl, hvl, hllv, hal⟩, els, hcv, ecl⟩ := hfac'
  obtain ⟨da, rfl, Da⟩ := ha
  have lenys := len_map eys
  refine vec_attrs F.Wh (hv.up (by walk_at "up")) fun _ => ?_
  repeat walk_at "s"
  refine d_item (knd := sK w) (k := ("levels" : Str)) (Da.up (by walk_at "up")).1 (by simp [sK, PySem.strKind, Value.isStrOf]) va_lev (fun _ => ?_) (by with_unfolding_all rfl)
  repeat walk_at "s"
  refine vec_items F.Wh (hvl.up (by walk_at "up")) fun _ => ?_
  repeat walk_at "s"
  refine l_ne R (hllv.up (by walk_at "up")) (lD.up (by walk_at "up")) (flats (f := eS) (fun _ _ => flat_eS) els) (flats (f := eS) (fun _ _ => flat_eS) eD) ?_
  rw [els, eD, decide_eq_true rfl]
  repeat walk_at "s"
  refine ite_f rfl ?_
  repeat walk_at "s"
  refine ite_f rfl ?_
  refine wpAny_execs_nil ?_
  repeat walk_at "s"
  refine vec_items F.Wh (hv.up (by walk_at "up")) fun _ => ?_
  repeat walk_at "s"
  refine c_list F.sub (hl'.up (by walk_at "up")) (by omega) fun bw g₄ h₄ hbw G lB => ?_
  have F := F.step0 G
  have le₄ := G.le
  repeat walk_at "s"
  rename Fn _ _ _ _ _ _ _ _ _ => F
  refine c_used_levels R F.sub F.W (hfac'0.up (by walk_at "up")) okc' (by omega) (by omega) fun lx g₅ h₅ t₅ cs₂ G hfac₂ okc₂ tcs₂ => ?_
  have F := F.step0 G
  have le₅ := G.le
  have hul : (usedLev cs' lev).length ≤ 9 := by
    rw [used_eq okc' P.nodup]; exact Nat.le_trans (List.length_filter_le _ _) hll
  have lc₂ : cs₂.length = ps.length := by
    have := congrArg List.length tcs₂
    unfold told at this
    rw [List.length_map, List.length_map] at this; omega
  repeat walk_at "s"
  rename Fn _ _ _ _ _ _ _ _ _ => F
  have hfac₂0 := hfac₂
  obtain ⟨ys₂, lv₂, cv₂, ls₂, cls₂, ⟨af₂, attrs₂, hv₂, hl₂, ha₂⟩, eys₂, ⟨alv₂, atl₂, hvl₂, hllv₂, hal₂⟩, els₂, hcv₂, ecl₂⟩ := hfac₂
  obtain ⟨da₂, rfl, Da₂⟩ := ha₂
  refine vec_attrs F.Wh (hv₂.up (by walk_at "up")) fun _ => ?_
  repeat walk_at "s"
  refine d_item (knd := sK w) (k := ("levels" : Str)) (Da₂.up (by walk_at "up")).1 (by simp [sK, PySem.strKind, Value.isStrOf]) va_lev (fun _ => ?_) (by with_unfolding_all rfl)
  repeat walk_at "s"
  refine vec_items F.Wh (hvl₂.up (by walk_at "up")) fun _ => ?_
  repeat walk_at "s"
  refine comp_expr rfl ?_
  repeat walk_at "s"
  have lend := len_map eD
  refine comp_gen rfl (fun _ => rfl) rfl F (src_list R.hd F.sub (lD.up (by walk_at "up"))) (by omega) lev lend.symm (fun s => (told cs' lev).contains (some s)) eS (fun i s' C g₁ h₁ t₁ u E' hap hP X G => ?_) fun kw g₆ h₆ t₆ kv hkw F le₆ lK eK => ?_
  · obtain ⟨s'', hs', e⟩ := map_at eD hP
    rw [hap] at hs'; cases hs'
    obtain ⟨tk, rfl⟩ := er_str e
    refine tests_one ?_
    repeat walk_at "s"
    refine l_in (lN.up (by walk_at "up")) (flats (f := eT) (fun _ _ => flat_eT) eN') rfl ?_
    rw [show er (Value.str s' tk) = Value.str s' 0 from rfl, any_eT eN']
    repeat walk_at "s"
    refine ⟨rfl, _, _, _, rfl, Grow.refl X.sub, fun _ => ?_⟩
    repeat walk_at "s"
    exact ⟨rfl, _, _, _, rfl, Grow.refl X.sub⟩
  rw [← used_eq okc' P.nodup] at eK
  refine l_ne R (hllv₂.up (by walk_at "up")) (lK.up (by walk_at "up")) (flats (f := eS) (fun _ _ => flat_eS) els₂) (flats (f := eS) (fun _ _ => flat_eS) eK) ?_
  rw [els₂, eK, decide_eq_true rfl]
  repeat walk_at "s"
  refine ite_f rfl ?_
  refine wpAny_execs_nil ?_
  repeat walk_at "s"
  refine c_law_told R F.sub F.W (hfac₂0.up (by walk_at "up")) okc₂ (by omega) (by omega) fun tw₂ g₇ h₇ t₇ tv₂ G lT₂ eT₂ => ?_
  rw [tcs₂] at eT₂
  have F := F.step0 G
  have le₇ := G.le
  repeat walk_at "s"
  refine l_ne R (lT₂.up (by walk_at "up")) (lN.up (by walk_at "up")) (flats (f := eT) (fun _ _ => flat_eT) eT₂) (flats (f := eT) (fun _ _ => flat_eT) eN') ?_
  rw [eT₂, eN', decide_eq_true rfl]
  repeat walk_at "s"
  refine ite_f rfl ?_
  repeat walk_at "s"
  refine vec_items F.Wh (hv.up (by walk_at "up")) fun _ => ?_
  repeat walk_at "s"
  refine l_ne R (hl'.up (by walk_at "up")) (lB.up (by walk_at "up")) (flats (f := eO) (fun _ _ => flat_eO) eys) (flats (f := eO) (fun _ _ => flat_eO) eys) ?_
  rw [decide_eq_true rfl]
  repeat walk_at "s"
  refine ite_f rfl ?_
  repeat walk_at "s"
  refine ite_f rfl ?_
  refine wpAny_execs_nil ?_
  exact next _ _ _ _ F (by walk_at "up") (S0.move (by walk_at "up") (by walk_at "keep"))
end
end
section
set_option maxRecDepth 100000
set_option maxHeartbeats 8000000
open PySem PySem.W PySem.Calls PyProof.Rows
open PySem.SeqAt (EqAt RcAt)
def strangeP (lev : List Str) : Option Str → Bool
  | none => false
  | some s => !lev.contains s
theorem strange_eT (fr : List (Option Str)) (lev : List Str) : (fr.filter (strangeP lev)).map eT = (strangeL fr lev).map eS := by
  unfold strangeL
  induction fr with
  | nil => rfl
  | cons o r ih =>
    cases o with
    | none => simpa [strangeP] using ih
    | some s =>
      rw [List.filterMap_cons, List.filter_cons]
      simp only [id]
      rw [List.filter_cons]
      show (if (!lev.contains s) = true then _ else _ : List (Option Str)).map eT = _
      by_cases h : (!lev.contains s) = true
      · rw [if_pos h, if_pos h, List.map_cons, List.map_cons, ih]; rfl
      · rw [if_neg h, if_neg h, ih]
theorem newMsg_g (s : Str) : newMsg "g" s = (Str.ofString "factor g has new level ") ++ s := rfl

section
variable {w : World} {A : Around} {E : Value → Shared → Prop} {env : Env} {g h g₀ h₀ g' h' : Heap} {gs : Array GenState} {dr : Drawn} {t : Nat} {os : OsState} {m : Str → Option Value} {n : Nat} {wr : Addr → Prop} {μ : List (Addr × Obj)}

theorem segG {L : Addr} {row : Addr} {o : Obj} {many : Nat} {ts : List (Option Str)} {lev : List Str}
    (R : Room A 8) (hfr : A.frames = some [lawEnv w L]) (F : Fn w NoW g₀ h₀ (lawEnv w L) [(row, o)] m g h) (ro : RowObj o) (S : SA w g m row many ts lev) (P : PA many ts lev) :
    wpAny (model PR w) A (execs ((lawS w).1.drop 29) (lawEnv w L)) (LQ gs dr os h₀) E ⟨h, gs, dr, t, os⟩ := by
  obtain ⟨hrow, _, _, _, ⟨dd, dv, hdd, lD, eD⟩⟩ := S
  have hll := P.len
  have lend := len_map eD
  show wpAny _ _ (execs (_ :: _) _) _ _ _
  repeat walk_at "s"
  refine draw [] R F ro fun g₁ h₁ t₁ o₁ i tk F le₁ ro => ?_
  repeat walk_at "s"
  refine o_mod (by decide) fun _ _ => ?_
  obtain ⟨cnt, hcnt, hlt⟩ := fmod_nat i 5 (by decide)
  rw [show i.fmod 5 = (cnt : Int) from hcnt]
  repeat walk_at "s"
  refine c_law_texts R F.sub F.W (F.led _ (.head _)).2.1 (ro.at (F.led _ (.head _)).1) (by omega) fun fw g₂ h₂ t₂ fv fr G rr lF eF hT => ?_
  obtain ⟨o₂, F, ro⟩ := F.row [] G rr
  have le₂ := G.le
  have lenf := len_map eF
  have hfl := hT.1
  repeat walk_at "s"
  rename Fn _ _ _ _ _ _ _ _ _ => F
  refine (wpAny_mono (Q := fun fl s' => fl = .next ∧ ∃ g' h' t' m', s' = ⟨h', gs, dr, t', os⟩ ∧ Fn w NoW g₀ h₀ (lawEnv w L) [(row, o₂)] m' g' h' ∧ m' "fresh" = some (.ref fw) ∧ m' "due" = some (.ref dd) ∧ Sub g₂ g' ∧
    ((∃ b ys, m' "told" = some (.ref b) ∧ Lst g' b ys ∧ ys.map er = fr.map eT ∧ strangeL fr lev = []) ∨ (∃ e tk s, m' "told" = some (.ref e) ∧ ExcF g' e (.str (newMsg "g" s) tk) ∧ (strangeL fr lev).head? = some s))) ?_ (fun fl s' q => ?_) fun _ _ z => z)
  · refine try_stmt ?_
    repeat walk_at "s"
    refine c_vec (at' := none) R F.sub F.W lF rfl (.inl ⟨rfl, rfl⟩) fun v g₃ h₃ t₃ hv G V => ?_
    have F := F.step0 G
    have le₃ := G.le
    obtain ⟨av, atv, hva, hvl, hvt⟩ := V
    repeat walk_at "s"
    refine c_text_factor R F.sub F.W hva hvl eF (by omega) fun xv g₄ h₄ t₄ lev₂ hxv G hperm hsort hfac => ?_
    have F := F.step0 G
    have le₄ := G.le
    have hfac : Fac w g₄ (.ref xv) (codesL fr lev₂) lev₂ := hfac
    have lev₂len : lev₂.length ≤ 5 := by
      have := uniq_len fr
      rw [hperm.length_eq]; omega
    have hmem : ∀ s, some s ∈ fr ↔ s ∈ lev₂ := fun s => by rw [hperm.mem_iff, mem_uniq]
    have tcs := told_codes (ts := fr) (nl := lev₂) fun s hs => (hmem s).mp hs
    have okc := okCs_codes (ts := fr) (nl := lev₂) fun s hs => (hmem s).mp hs
    have lcs : (codesL fr lev₂).length = fr.length := by unfold codesL; rw [List.length_map]
    repeat walk_at "s"
    refine c_releveled R hfr (F.frok rfl) F.sub F.W (hfac.up (by walk_at "up")) okc (by omega) (by omega) (lD.up (by walk_at "up")) eD (by omega) (by decide) (fun s hs => Nat.le_trans (hT.2 s ((hmem s).mpr hs)) (by decide)) (fun x g₅ h₅ t₅ cs' hnil G hfac' okc' tcs' => ?_) fun e h₅ t₅ tk s hs T => ?_
    · rw [tcs] at hnil tcs'
      have F := F.step0 G
      have le₅ := G.le
      have lc' : cs'.length = fr.length := by
        have := congrArg List.length tcs'
        unfold told at this
        rw [List.length_map] at this; exact this
      repeat walk_at "s"
      refine c_law_told R F.sub F.W (hfac'.up (by walk_at "up")) okc' (by omega) (by omega) fun tw g₆ h₆ t₆ tv G lT eT' => ?_
      rw [tcs'] at eT'
      have F := F.step0 G
      have le₆ := G.le
      repeat walk_at "s"
      rename Fn _ _ _ _ _ _ _ _ _ => F
      exact wpAny_execs_nil ⟨rfl, _, _, _, _, rfl, F, by walk_at "m", by walk_at "m", by walk_at "up", .inl ⟨tw, tv, by walk_at "m", lT, eT', hnil⟩⟩
    · rw [tcs] at hs
      refine try_caught hfr rfl F T rfl rfl (by decide) rfl rfl fun g₅ h₅ t₅ v F le₅ X => ?_
      exact ⟨rfl, _, _, _, _, rfl, F, by walk_at "m", by walk_at "m", by walk_at "up", .inr ⟨e, tk, s, by walk_at "m", X, hs⟩⟩
  clear F
  obtain ⟨rfl, g₃, h₃, t₃, m₃, rfl, F, hfresh, hdue, le₃, hC⟩ := q
  show wpAny _ _ (execs (_ :: _) _) _ _ _
  refine wpAny_execs_cons ?_
  refine comp_assign rfl rfl ?_
  repeat walk_at "s"
  refine comp_gen_a rfl (fun _ => rfl) rfl rfl F (src_list R.hd F.sub (lF.up (by walk_at "up"))) (by omega) fr lenf.symm (strangeP lev) eT (fun i o' C g₁ h₁ t₁ u E' hap hP X G => ?_) fun kw g₄ h₄ t₄ kv hkw F le₄ lK eK => ?_
  · obtain ⟨o'', ho', e⟩ := map_at eF hP
    rw [hap] at ho'; cases ho'
    refine tests_one ?_
    repeat walk_at "s"
    cases o' with
    | none =>
      obtain rfl := er_none e
      refine ite_f rfl ?_
      exact ⟨rfl, _, _, _, rfl, Grow.refl X.sub, fun h => by cases h⟩
    | some sv =>
      obtain ⟨tk, rfl⟩ := er_str e
      refine ite_t rfl ?_
      repeat walk_at "s"
      refine l_notIn (lD.up (by walk_at "up")) (flats (f := eS) (fun _ _ => flat_eS) eD) rfl ?_
      rw [show er (Value.str sv tk) = Value.str sv 0 from rfl, any_eS eD]
      repeat walk_at "s"
      refine ite_s (fun hb => ?_) fun hb => ?_
      · repeat walk_at "s"
        refine ⟨hb.symm, _, _, _, rfl, Grow.refl X.sub, fun _ => ?_⟩
        repeat walk_at "s"
        exact ⟨rfl, _, _, _, rfl, Grow.refl X.sub⟩
      · exact ⟨hb.symm, _, _, _, rfl, Grow.refl X.sub, fun h => by rw [show strangeP lev (some sv) = _ from hb] at h; cases h⟩
  rw [strange_eT] at eK
  have lenK := len_map eK
  have ltK : (strangeL fr lev).length ≤ 5 := Nat.le_trans (List.length_filter_le _ _) (Nat.le_trans (List.length_filterMap_le _ _) (by omega))
  have fin : ∀ {h' : Heap}, Fn w NoW g₀ h₀ (lawEnv w L) [(row, o₂)] (upd m₃ "strange" (.ref kw)) g₄ h' → Sub h₀ h' := fun F => F.gr.keep0
  repeat walk_at "s"
  refine l_display ?_
  repeat walk_at "s"
  refine ⟨by simp, _, _, _, rfl, F.sub, fun b₅ g₅ h₅ hb₅ G l₅ => ?_⟩
  have F := F.step0 G
  have le₅ := G.le
  refine l_ne R (lK.up (by walk_at "up")) (l₅.up F.sub) (flats (f := eS) (fun _ _ => flat_eS) eK) (by simp) ?_
  rw [er_nil_iff eK]
  repeat walk_at "s"
  rcases hC with ⟨b, ys, htold, lY, eY, hnil⟩ | ⟨e, tk, s, htold, X, hs⟩
  · refine ite_f (by rw [hnil]; rfl) ?_
    refine wpAny_execs_nil ?_
    repeat walk_at "s"
    refine l_eq R (lY.up (by walk_at "up")) (lF.up (by walk_at "up")) (flats (f := eT) (fun _ _ => flat_eT) eY) (flats (f := eT) (fun _ _ => flat_eT) eF) ?_
    rw [eY, eF, decide_eq_true rfl]
    exact ⟨rfl, _, _, rfl, F.gr.keep0⟩
  · have hne : strangeL fr lev ≠ [] := fun q => by rw [q] at hs; cases hs
    refine ite_t (by simpa using hne) ?_
    repeat walk_at "s"
    refine wpAny_And2 ?_
    repeat walk_at "s"
    obtain ⟨dx, tp, tb, ob, es, nn, di, ks, hm⟩ := X.up (by walk_at "up" : Sub g₃ h₅)
    refine isi_call F.Wh.K (fun M => (Looks.ld ob).andThen .now) (by kernel_rfl) (by intro q; cases q) ?_
    refine wpAny_truthy_bool ?_
    refine ite_t rfl ?_
    repeat walk_at "s"
    refine get_exc F.Wh.K ob di hm rfl ?_
    repeat walk_at "s"
    have h0 : (strangeL fr lev)[0]? = some s := by rw [← List.head?_eq_getElem?]; exact hs
    obtain ⟨v0, hv0, ev0⟩ := at_map eK h0
    obtain ⟨tk0, rfl⟩ := er_str ev0
    refine l_item (i := 0) (lK.up (by walk_at "up")) rfl hv0 (by omega) ?_ (by with_unfolding_all rfl)
    have hsl : s.length ≤ 2 := by
      have h1 := List.mem_of_getElem? h0
      unfold strangeL at h1
      have h2 := (List.mem_filter.mp h1).1
      rw [List.mem_filterMap] at h2
      obtain ⟨o, ho, e⟩ := h2
      simp only [id] at e
      subst e
      exact hT.2 s ho
    have l1 : (Str.ofString "factor g has new level ").length = 23 := rfl
    refine o_sadd (by omega) fun _ _ => ?_
    repeat walk_at "s"
    rw [newMsg_g, beq_self_eq_true]
    exact ⟨rfl, _, _, rfl, F.gr.keep0⟩
end
end
section
set_option maxRecDepth 100000
open PySem PySem.W PySem.Calls PyProof.Rows
def leS (a b : Str) : Prop := a.cps.toList ≤ b.cps.toList
theorem leS_anti {a b : Str} (h1 : leS a b) (h2 : leS b a) : a = b := by
  have := List.le_antisymm h1 h2
  obtain ⟨x⟩ := a; obtain ⟨y⟩ := b
  congr 1
  exact Array.ext' this
theorem leS_trans {a b c : Str} (h1 : leS a b) (h2 : leS b c) : leS a c := List.le_trans h1 h2
theorem leS_of {a b : Str} (h : Spec.ltCps b.cps.toList a.cps.toList = false) : leS a b := by
  rw [ltCps_eq, decide_eq_false_iff_not] at h
  exact List.not_lt.mp h
theorem rising_pairwise : ∀ (l : List Str) (p : Str), risingS p l = true → (p :: l).Pairwise leS
  | [], p, _ => List.pairwise_singleton _ _
  | x :: r, p, h => by
    have h' : (!Spec.ltCps x.cps.toList p.cps.toList && risingS x r) = true := h
    rw [Bool.and_eq_true, Bool.not_eq_true'] at h'
    have ih := rising_pairwise r x h'.2
    have px := leS_of h'.1
    refine List.pairwise_cons.mpr ⟨fun y hy => ?_, ih⟩
    rcases List.mem_cons.mp hy with rfl | hy
    · exact px
    · exact leS_trans px (List.rel_of_pairwise_cons ih hy)
theorem sorted_pairwise {l : List Str} (h : sortedS l = true) : l.Pairwise leS := by
  cases l with
  | nil => exact .nil
  | cons x r => exact rising_pairwise r x h

def dedupI (ss : List Str) : List Nat := (List.range ss.length).filter fun i => decide (i = 0) || !(ss.getD i "" == ss.getD (i-1) "")
theorem getD_at {ss : List Str} {i : Nat} (h : i < ss.length) : ss.getD i "" = ss[i] := by
  rw [List.getD_eq_getElem?_getD, List.getElem?_eq_getElem h]; rfl
theorem dedup_pairwise {ss : List Str} (h : ss.Pairwise leS) : (dedup ss).Pairwise fun a b => leS a b ∧ a ≠ b := by
  have hle : ∀ i j, i ≤ j → j < ss.length → leS (ss.getD i "") (ss.getD j "") := fun i j hij hj => by
    rw [getD_at hj, getD_at (Nat.lt_of_le_of_lt hij hj)]
    rcases Nat.lt_or_eq_of_le hij with h1 | rfl
    · exact List.pairwise_iff_getElem.mp h i j _ hj h1
    · exact List.le_refl _
  show ((dedupI ss).map fun i => ss.getD i "").Pairwise _
  rw [List.pairwise_map]
  have hp : (dedupI ss).Pairwise (· < ·) := List.Pairwise.filter _ List.pairwise_lt_range
  refine hp.imp_of_mem fun {i j} hi hj hij => ?_
  obtain ⟨hj1, hj2⟩ := List.mem_filter.mp hj
  have hjl : j < ss.length := by simpa using hj1
  refine ⟨hle i j (Nat.le_of_lt hij) hjl, fun e => ?_⟩
  have hj0 : ¬ j = 0 := by omega
  have hne : ss.getD j "" ≠ ss.getD (j-1) "" := by
    simpa [hj0] using hj2
  have h1 := hle i (j-1) (by omega) (by omega)
  have h2 := hle (j-1) j (by omega) hjl
  rw [e] at h1
  exact hne (leS_anti h1 h2)
theorem dedup_mem {ss : List Str} {s : Str} : s ∈ dedup ss ↔ s ∈ ss := by
  constructor
  · intro h
    obtain ⟨i, hi, e⟩ := List.mem_map.mp h
    have hl : i < ss.length := by simpa using (List.mem_filter.mp hi).1
    rw [← e, getD_at hl]; exact List.getElem_mem hl
  · intro h
    obtain ⟨i, hi⟩ := List.mem_iff_getElem?.mp h
    have key : ∀ i : Nat, ss[i]? = some s → s ∈ dedup ss := by
      intro i
      induction i using Nat.strongRecOn with
      | ind i ih =>
        intro hi
        obtain ⟨hl, e⟩ := List.getElem?_eq_some_iff.mp hi
        by_cases hp : (decide (i = 0) || !(ss.getD i "" == ss.getD (i-1) "")) = true
        · refine List.mem_map.mpr ⟨i, List.mem_filter.mpr ⟨by simpa using hl, hp⟩, ?_⟩
          rw [getD_at hl]; exact e
        · simp only [Bool.or_eq_true, decide_eq_true_eq, Bool.not_eq_true', not_or, Bool.not_eq_false] at hp
          have h0 : 0 < i := Nat.pos_of_ne_zero hp.1
          refine ih (i-1) (by omega) ?_
          have hl' : i - 1 < ss.length := by omega
          have := beq_iff_eq.mp hp.2
          rw [getD_at hl, getD_at hl'] at this
          rw [List.getElem?_eq_getElem hl', ← this, e]
    exact key i hi
theorem hlev_all (ts : List (Option Str)) (lev ss : List Str) (h1 : lev.Perm (uniq ts)) (h2 : sortedS lev = true) (h3 : ss.Perm (ts.filterMap id)) (h4 : sortedS ss = true) : dedup ss = lev := by
  have d := dedup_pairwise (sorted_pairwise h4)
  have nd : (dedup ss).Nodup := d.imp fun h => h.2
  have nl : lev.Nodup := h1.nodup_iff.mpr (uniq_nodup ts)
  refine List.Perm.eq_of_pairwise (le := leS) (fun a b _ _ => leS_anti) (d.imp fun h => h.1) (sorted_pairwise h2) ?_
  rw [List.perm_ext_iff_of_nodup nd nl]
  intro s
  rw [dedup_mem, h3.mem_iff, h1.mem_iff, mem_uniq, List.mem_filterMap]
  exact ⟨fun ⟨o, ho, e⟩ => by simp only [id] at e; subst e; exact ho, fun h => ⟨_, h, rfl⟩⟩
end
section
open PySem PySem.W PySem.Calls PyProof.Rows
set_option maxRecDepth 100000
set_option maxHeartbeats 8000000
theorem intL_of : ∀ {vs : List Value} {ns : List Int}, IntsAre vs ns → IntL vs
  | _, _, .nil => fun _ h => by cases h
  | _, _, .cons n t r => fun y hy => (List.mem_cons.mp hy).elim (fun e => ⟨n, t, e⟩) fun h => intL_of r y h
theorem ints_len : ∀ {vs : List Value} {ns : List Int}, IntsAre vs ns → vs.length = ns.length
  | _, _, .nil => rfl
  | _, _, .cons _ _ r => by rw [List.length_cons, List.length_cons, ints_len r]

section
variable {w : World} {A : Around} {g h : Heap} {gs : Array GenState} {dr : Drawn} {t : Nat} {os : OsState}
theorem c_law {a : Addr} {vs : List Value} {RR : Result → Shared → Prop} (R : Room A 9) (hfr : A.frames = some []) (W : Wd w h) (hl : h.IsList a vs.toArray) (hx : IntL vs) (hn : vs.length ≤ 63)
    (q : ∀ h' t', Sub h h' → RR (.ok (.ret (.bool true))) ⟨h', gs, dr, t', os⟩) :
    codeAny (model PR w) A (.call (.ref 248) ⟨[.ref a], []⟩) RR ⟨h, gs, dr, t, os⟩ := by
  refine call_fn (wr := NoW) Sub.refl W R.room (f248 w).2 (lawS w).2 (by kernel_rfl) rfl rfl rfl (.of_eq rfl) rfl (noWr _) fun L h₁ t₁ K F => ?_
  have R' := R.deeper (callEnvC (f248 w).1 L 248)
  have hfr' : (A.deeper (lawEnv w L)).frames = some [lawEnv w L] := Around.frames_deeper hfr
  refine wpAny_mono (Q := LQ gs dr os h) ?_ (fun fl s' z => ?_) fun _ _ e => e
  · refine segA hlev_all R' hfr' F (by with_unfolding_all rfl) hl hx hn fun m₁ g₁ h₁ t₁ row o many ts lev F ro S P => ?_
    refine segB R' hfr' F ro S P fun m₂ g₂ h₂ t₂ o₂ sp sv ps F ro S hsp lS eS hps hpl => ?_
    refine segC R' F ro S P hsp fun m₃ g₃ h₃ t₃ o₃ cl vs cols F ro s₃ S hsp hcl lC hC hcn hcl2 => ?_
    refine segD R' hfr' F S P hsp (lS.up s₃) eS hps hpl hcl lC hC hcn hcl2 fun m₄ g₄ h₄ t₄ F s₄ S hsp => ?_
    refine segE R' F S P hsp (lS.up (s₃.trans s₄)) eS hps hpl fun m₅ g₅ h₅ t₅ F s₅ S hsp => ?_
    refine segF R' F S P hsp (lS.up ((s₃.trans s₄).trans s₅)) eS hps hpl fun m₆ g₆ h₆ t₆ F s₆ S => ?_
    exact segG R' hfr' F ro S P
  · obtain ⟨rfl, h', t', rfl, s⟩ := z
    exact q h' t' s
end
theorem law_room : Room callerA 9 := ⟨rfl, by decide +kernel, by decide +kernel⟩
end
end Mine
open PySem PySem.W PyProof.Rows
set_option maxRecDepth 100000
set_option maxHeartbeats 8000000 in
theorem PySem.Challenge.cw_nz0477_01_holds : PySem.Challenge.rw_nz0477_01.Holds := by
  refine Mine.hd ?_
  k_fill
  intro w s₀ s₁ mg mb G Y fa o pm cd doc dV kV ho hd hcd hD hmg hg args vals as hpre hlay hrd hwl hlo
  have KX := kIn_of Y
  have X := (Ground.X G).1
  have V := (Ground.X G).2
  try w_nolog (first | (have GL := glob_more (Ground.glob G (by first | k_qdec | decide +kernel) (by first | k_qdec | decide +kernel)) V) | (have GL := glob_more (Ground.glob G (by decide +kernel)) V))
  refine Ground.open G ?_
  intro T B D TE TW
  try (refine guard_noD D (by decide +kernel) ?_; clear D)
  obtain ⟨_, _, M⟩ := bmod_of_top T
  have TA := at_of_top T
  try (obtain ⟨_, _, he, B0⟩ := based_of_top T rfl hmg ho hd; have he' : cd = _ := he; subst he'; clear he)
  wrow_args hpre hlay hrd hwl hlo
  all_goals (
    first | refine callC_kw (enter_call ?_) | refine enter_call ?_ | refine callC_kw (enter_callW ?_) | refine enter_callW ?_ | w_how
    w_top on
    try refine codeAny_mono ?_ (fun _ _ g => GoodW.toG g)
    have K0 := below_caller (Top.heap T))
  rename s₁.heap.IsList _ _ => hL
  rename IntsAre _ _ => hI
  rename ¬ (_ < _) => hlen
  have W : Mine.Wd w s₁.heap := ⟨KX, mg, mb, topRead_of T⟩
  have hfa : fa = 248 := by
    have e : nsIn (Mine.KP w) mainGlobals (Str.ofString "law") = some (some (.ref 248)) := by kernel_rfl
    have e2 := mg_of W.K T.g e
    have e3 : mg (Str.ofString "law") = some (.ref fa) := hmg
    rw [e2] at e3
    cases e3; rfl
  subst hfa
  refine Mine.c_law Mine.law_room rfl W hL (Mine.intL_of hI) (by rw [Mine.ints_len hI]; omega) fun h' t' s => ?_
  refine ⟨.inl ⟨_, _, _, rfl, fun _ => rfl, ReadsW.bool true, ?_, fun _ => ⟨List.nodup_nil, fun _ h => by cases h⟩⟩, s, rfl, hg⟩
  wrow_post
