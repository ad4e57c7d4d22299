import PyProof.Rows.All
import Wide.All
import OpenK.AllK
import Wide.FinOn
import PySem.Challenge.RW_nt0662_01
open PySem PySem.W PyProof.Rows
set_option Elab.async false
set_option maxRecDepth 100000
set_option maxHeartbeats 4000000
set_option linter.unusedVariables false
set_option linter.unusedSimpArgs false
set_option linter.unusedSectionVars false
namespace Mine
open PySem.Calls

/-- values without their tokens -/
inductive AV where
  | none
  | bool (b : Bool)
  | int (i : Int)
  | str (s : Str)
  | byt (b : Array UInt8)
  | ref (a : Addr)

inductive VR : AV → Value → Prop where
  | none : VR .none .none
  | bool (b : Bool) : VR (.bool b) (.bool b)
  | int (i : Int) (t : Tok) : VR (.int i) (.int i t)
  | str (s : Str) (t : Tok) : VR (.str s) (.str s t)
  | byt (b : Array UInt8) (t : Tok) : VR (.byt b) (.bytes b t)
  | ref (a : Addr) : VR (.ref a) (.ref a)

noncomputable def VRs (vs : List AV) (xs : List Value) : Prop := vs.length = xs.length ∧ ∀ (i : Nat) (v : AV) (x : Value), vs[i]? = some v → xs[i]? = some x → VR v x

theorem VRs.nil : VRs [] [] := ⟨rfl, fun i v x h => by simp at h⟩
theorem VRs.cons {v : AV} {x : Value} {vs : List AV} {xs : List Value} (h : VR v x) (t : VRs vs xs) : VRs (v :: vs) (x :: xs) := by
  refine ⟨by simp [t.1], fun i a b ha hb => ?_⟩
  cases i with
  | zero => simp at ha hb; subst ha hb; exact h
  | succ i => simp at ha hb; exact t.2 i a b ha hb
theorem VRs.nil_inv {xs : List Value} (h : VRs [] xs) : xs = [] := by
  cases xs with
  | nil => rfl
  | cons x r => have := h.1; simp at this
theorem VRs.cons_inv {v : AV} {vs : List AV} {xs : List Value} (h : VRs (v :: vs) xs) : ∃ x r, xs = x :: r ∧ VR v x ∧ VRs vs r := by
  cases xs with
  | nil => have := h.1; simp at this
  | cons x r =>
    refine ⟨x, r, rfl, h.2 0 v x rfl rfl, by have := h.1; simp at this; exact this, fun i a b ha hb => ?_⟩
    exact h.2 (i + 1) a b (by simpa using ha) (by simpa using hb)
theorem VRs.append {vs us : List AV} {xs ys : List Value} (h : VRs vs xs) (k : VRs us ys) : VRs (vs ++ us) (xs ++ ys) := by
  induction vs generalizing xs with
  | nil => rw [h.nil_inv]; exact k
  | cons v r ih => obtain ⟨x, t, rfl, h1, h2⟩ := h.cons_inv; exact VRs.cons h1 (ih h2)
theorem VRs.get {vs : List AV} {xs : List Value} (h : VRs vs xs) {i : Nat} {v : AV} (e : vs[i]? = some v) : ∃ x, xs[i]? = some x ∧ VR v x := by
  have hi : i < xs.length := by rw [← h.1]; exact (List.getElem?_eq_some_iff.mp e).1
  exact ⟨xs[i], List.getElem?_eq_getElem hi, h.2 i v _ e (List.getElem?_eq_getElem hi)⟩
theorem VRs.set {vs : List AV} {xs : List Value} (h : VRs vs xs) {v : AV} {x : Value} (k : VR v x) (i : Nat) : VRs (vs.set i v) (xs.set i x) := by
  refine ⟨by simp [h.1], fun j a b ha hb => ?_⟩
  rw [List.getElem?_set] at ha hb
  by_cases hij : i = j
  · subst hij
    simp only [if_true] at ha hb
    split at ha
    · split at hb
      · cases ha; cases hb; exact k
      · cases hb
    · cases ha
  · simp only [hij, if_false] at ha hb
    exact h.2 j a b ha hb
theorem VRs.of_pick {vs : List AV} {xs : List Value} (h : VRs vs xs) (js : List Nat) (hj : ∀ j ∈ js, j < vs.length) : VRs (js.filterMap (vs[·]?)) (js.filterMap (xs[·]?)) := by
  induction js with
  | nil => exact VRs.nil
  | cons j r ih =>
    have hv : j < vs.length := hj j List.mem_cons_self
    have hx : j < xs.length := by rw [← h.1]; exact hv
    rw [List.filterMap_cons, List.filterMap_cons, List.getElem?_eq_getElem hv, List.getElem?_eq_getElem hx]
    exact VRs.cons (h.2 j _ _ (List.getElem?_eq_getElem hv) (List.getElem?_eq_getElem hx)) (ih fun k hk => hj k (List.mem_cons_of_mem _ hk))

/-- objects without tokens -/
inductive AO where
  | list (vs : List AV)
  | tup (vs : List AV)
  | inst (C d : Addr)
  | flds (fs : List (Str × AV))

noncomputable def FldsOk (es : Array DictEntry) (fs : List (Str × AV)) : Prop :=
  StrKeys es ∧ es.size ≤ fs.length ∧ ∀ x, match fs.lookup x with
    | some v => ∃ w, nsFind es x = some w ∧ VR v w
    | none => nsFind es x = none

noncomputable def ORep (h : Heap) (a : Addr) : AO → Prop
  | .list vs => ∃ xs n, h.get? a = some { cls := .type "list", dict := none, data := .seq xs n, slots := #[] } ∧ VRs vs xs.toList
  | .tup vs => ∃ xs n, h.get? a = some { cls := .type "tuple", dict := none, data := .seq xs n, slots := #[] } ∧ VRs vs xs.toList
  | .inst C d => h.get? a = some { cls := .ref C, dict := some d, data := .plain, slots := #[] }
  | .flds fs => ∃ es n, h.get? a = some { cls := .type "dict", dict := none, data := .dict es n, slots := #[] } ∧ FldsOk es fs

theorem ORep.some {h : Heap} {a : Addr} {o : AO} (x : ORep h a o) : ∃ ob, h.get? a = some ob := by
  cases o with
  | list vs => obtain ⟨_, _, h, _⟩ := x; exact ⟨_, h⟩
  | tup vs => obtain ⟨_, _, h, _⟩ := x; exact ⟨_, h⟩
  | inst C d => exact ⟨_, x⟩
  | flds fs => obtain ⟨_, _, h, _⟩ := x; exact ⟨_, h⟩
theorem ORep.at {h h' : Heap} {a : Addr} {o : AO} (x : ORep h a o) (k : ∀ ob, h.get? a = .some ob → h'.get? a = .some ob) : ORep h' a o := by
  cases o with
  | list vs => obtain ⟨xs, n, h, r⟩ := x; exact ⟨xs, n, k _ h, r⟩
  | tup vs => obtain ⟨xs, n, h, r⟩ := x; exact ⟨xs, n, k _ h, r⟩
  | inst C d => exact k _ x
  | flds fs => obtain ⟨es, n, h, r⟩ := x; exact ⟨es, n, k _ h, r⟩

abbrev AH := Addr → Option AO
noncomputable def AH.set (H : AH) (a : Addr) (o : AO) : AH := fun b => if b = a then some o else H b
theorem AH.set_self (H : AH) (a : Addr) (o : AO) : (H.set a o) a = some o := if_pos rfl
theorem AH.set_ne (H : AH) {a b : Addr} (o : AO) (h : b ≠ a) : (H.set a o) b = H b := if_neg h
noncomputable def AH.le (H H' : AH) : Prop := ∀ a o, H a = some o → H' a = some o
theorem AH.le.refl (H : AH) : H.le H := fun _ _ e => e
theorem AH.le.trans {H H' H'' : AH} (x : H.le H') (y : H'.le H'') : H.le H'' := fun a o e => y a o (x a o e)

abbrev Loc := Str → Option AV
noncomputable def Loc.set (ρ : Loc) (x : Str) (v : AV) : Loc := fun y => if y = x then some v else ρ y
abbrev Hid := Addr → Option Obj

/-- what stays: the program, the world, the top's heap -/
structure Gx where
  prog : Program
  w : World
  base : Heap
  mg : Str → Option Value
  mb : Str → Option Value
  os : OsState
  g : base.Ns mainGlobals mg
  b : base.Ns builtinsNs mb
  nolimit : base.NoLimit

/-- the heap part of a state -/
structure StH (G : Gx) (P : Hid) (H : AH) (s : Shared) : Prop where
  base : ∀ b o, G.base.get? b = some o → P b = some o
  keep : ∀ b o, P b = some o → s.heap.get? b = some o
  heap : ∀ a o, H a = some o → ORep s.heap a o
  apart : ∀ a o, H a = some o → P a = none
  gens : s.gens = #[]
  os : s.os = G.os

structure Dyn where
  L : Addr
  cells : List (Str × Addr)
  qual : Str
  func : Option Addr
  code : Value
  frame : Option Addr
noncomputable def Dyn.env (D : Dyn) (sc : Scope) : Env :=
  { scope := sc, locals := D.L, globals := mainGlobals, cells := D.cells, qual := D.qual, func := D.func, code := D.code, frame := D.frame, builtins := builtinsNs }

/-- the frame part of a state -/
structure Fm (sc : Scope) (D : Dyn) (ρ : Loc) (P : Hid) (H : AH) (h : Heap) : Prop where
  ns : ∃ m, h.Ns D.L m ∧ ∀ x v, sc.names.lookup x = some .local → ρ x = some v → ∃ w, m x = some w ∧ VR v w
  cell : ∀ x, sc.names.lookup x = some .cell → ∃ c vo, D.cells.lookup x = some c ∧ h.IsCell c vo ∧ ∀ v, ρ x = some v → ∃ w, vo = some w ∧ VR v w
  LP : P D.L = none
  LH : H D.L = none
  cH : ∀ x c, D.cells.lookup x = some c → H c = none ∧ c ≠ D.L
  clive : ∀ x c, D.cells.lookup x = some c → ∃ o, h.get? c = some o
  cinj : ∀ x y c, D.cells.lookup x = some c → D.cells.lookup y = some c → x = y
  cP : D.func.isSome = true → ∀ x c, D.cells.lookup x = some c → P c = none

structure StF (G : Gx) (P : Hid) (sc : Scope) (D : Dyn) (ρ : Loc) (H : AH) (s : Shared) : Prop where
  h : StH G P H s
  f : Fm sc D ρ P H s.heap

theorem StH.lt {G : Gx} {P : Hid} {H : AH} {s : Shared} (S : StH G P H s) {a : Addr} {o : AO} (e : H a = some o) : a < s.heap.objs.size := by
  obtain ⟨ob, h⟩ := (S.heap a o e).some; exact Heap.lt_size h
theorem StH.fresh {G : Gx} {P : Hid} {H : AH} {s : Shared} (S : StH G P H s) {a : Addr} (ha : s.heap.objs.size ≤ a) : H a = none ∧ P a = none := by
  constructor
  · cases e : H a with
    | none => rfl
    | some o => exact absurd (S.lt e) (Nat.not_lt.mpr ha)
  · cases e : P a with
    | none => rfl
    | some o => exact absurd (Heap.lt_size (S.keep a o e)) (Nat.not_lt.mpr ha)
theorem StH.baseIn {G : Gx} {P : Hid} {H : AH} {s : Shared} (S : StH G P H s) {a : Addr} {o : Obj} (e : G.base.get? a = some o) : s.heap.get? a = some o := S.keep _ _ (S.base _ _ e)
theorem StH.toks {G : Gx} {P : Hid} {H : AH} {s : Shared} (S : StH G P H s) (t : Nat) : StH G P H { s with toks := t } := ⟨S.base, S.keep, S.heap, S.apart, S.gens, S.os⟩
theorem StH.sub {G : Gx} {P : Hid} {H H' : AH} {s : Shared} (S : StH G P H' s) (k : H.le H') : StH G P H s :=
  ⟨S.base, S.keep, fun a o e => S.heap a o (k a o e), fun a o e => S.apart a o (k a o e), S.gens, S.os⟩
theorem StH.ext {G : Gx} {P : Hid} {H : AH} {s : Shared} (S : StH G P H s) {h' : Heap} (k : ∀ b o, s.heap.get? b = some o → h'.get? b = some o) : StH G P H { s with heap := h' } :=
  ⟨S.base, fun b o e => k _ _ (S.keep b o e), fun a o e => (S.heap a o e).at fun _ x => k _ _ x, S.apart, S.gens, S.os⟩
/-- one address, owned by neither, is written -/
theorem StH.other {G : Gx} {P : Hid} {H : AH} {s : Shared} (S : StH G P H s) {h' : Heap} {c : Addr} (hH : H c = none) (hP : P c = none) (k : Heap.ExtBut c s.heap h') : StH G P H { s with heap := h' } :=
  ⟨S.base, fun b o e => k b o (by rintro rfl; rw [hP] at e; cases e) (S.keep b o e), fun a o e => (S.heap a o e).at fun _ x => k a _ (by rintro rfl; rw [hH] at e; cases e) x, S.apart, S.gens, S.os⟩
theorem StH.alloc {G : Gx} {P : Hid} {H : AH} {s : Shared} (S : StH G P H s) {h' : Heap} {a : Addr} {o : AO} (ha : s.heap.objs.size ≤ a) (k : ∀ b o, s.heap.get? b = some o → h'.get? b = some o) (r : ORep h' a o) :
    StH G P (H.set a o) { s with heap := h' } := by
  refine ⟨S.base, fun b o e => k _ _ (S.keep b o e), fun b o' e => ?_, fun b o' e => ?_, S.gens, S.os⟩
  · by_cases hb : b = a
    · subst hb; rw [AH.set_self] at e; cases e; exact r
    · rw [AH.set_ne _ _ hb] at e; exact (S.heap b o' e).at fun _ x => k _ _ x
  · by_cases hb : b = a
    · subst hb; exact (S.fresh ha).2
    · rw [AH.set_ne _ _ hb] at e; exact S.apart b o' e
theorem StH.upd {G : Gx} {P : Hid} {H : AH} {s : Shared} (S : StH G P H s) {h' : Heap} {a : Addr} {o o' : AO} (e : H a = some o) (k : Heap.ExtBut a s.heap h') (r : ORep h' a o') :
    StH G P (H.set a o') { s with heap := h' } := by
  have hP := S.apart a o e
  refine ⟨S.base, fun b ob x => k b ob (by rintro rfl; rw [hP] at x; cases x) (S.keep b ob x), fun b ob x => ?_, fun b ob x => ?_, S.gens, S.os⟩
  · by_cases hb : b = a
    · subst hb; rw [AH.set_self] at x; cases x; exact r
    · rw [AH.set_ne _ _ hb] at x; exact (S.heap b ob x).at fun _ y => k b _ hb y
  · by_cases hb : b = a
    · subst hb; exact hP
    · rw [AH.set_ne _ _ hb] at x; exact S.apart b ob x

theorem Fm.at {sc : Scope} {D : Dyn} {ρ : Loc} {P : Hid} {H : AH} {h h' : Heap} (F : Fm sc D ρ P H h) (kL : ∀ o, h.get? D.L = some o → h'.get? D.L = some o)
    (kc : ∀ x c, D.cells.lookup x = some c → ∀ o, h.get? c = some o → h'.get? c = some o) : Fm sc D ρ P H h' := by
  obtain ⟨⟨m, n, r⟩, c, a1, a2, a3, a6, a4, a5⟩ := F
  refine ⟨⟨m, n.at kL, r⟩, fun x hx => ?_, a1, a2, a3, fun x cc e => let ⟨o, ho⟩ := a6 x cc e; ⟨o, kc x cc e o ho⟩, a4, a5⟩
  obtain ⟨cc, vo, h1, ⟨o, h2, h3⟩, h4⟩ := c x hx
  exact ⟨cc, vo, h1, ⟨o, kc x cc h1 o h2, h3⟩, h4⟩
theorem Fm.ext {sc : Scope} {D : Dyn} {ρ : Loc} {P : Hid} {H : AH} {h h' : Heap} (F : Fm sc D ρ P H h) (k : ∀ b o, h.get? b = some o → h'.get? b = some o) : Fm sc D ρ P H h' :=
  F.at (fun o e => k _ o e) fun _ _ _ o e => k _ o e
/-- the abstract heap changes: no owned address of the frame gets an entry -/
theorem Fm.heap {sc : Scope} {D : Dyn} {ρ : Loc} {P : Hid} {H H' : AH} {h : Heap} (F : Fm sc D ρ P H h) (kL : H' D.L = none) (kc : ∀ x c, D.cells.lookup x = some c → H' c = none) : Fm sc D ρ P H' h :=
  ⟨F.ns, F.cell, F.LP, kL, fun x c e => ⟨kc x c e, (F.cH x c e).2⟩, F.clive, F.cinj, F.cP⟩
theorem Fm.sub {sc : Scope} {D : Dyn} {ρ : Loc} {P : Hid} {H H' : AH} {h : Heap} (F : Fm sc D ρ P H' h) (k : H.le H') : Fm sc D ρ P H h := by
  have none_of : ∀ c, H' c = none → H c = none := fun c e => by
    cases x : H c with
    | none => rfl
    | some o => rw [k c o x] at e; cases e
  exact F.heap (none_of _ F.LH) fun x c e => none_of _ (F.cH x c e).1
theorem Fm.Llt {sc : Scope} {D : Dyn} {ρ : Loc} {P : Hid} {H : AH} {h : Heap} (F : Fm sc D ρ P H h) : D.L < h.objs.size := by obtain ⟨m, n, _⟩ := F.ns; exact n.lt

section
variable {G : Gx} {P : Hid} {sc : Scope} {D : Dyn} {ρ : Loc} {H : AH} {s : Shared}
theorem StF.toks (S : StF G P sc D ρ H s) (t : Nat) : StF G P sc D ρ H { s with toks := t } := ⟨S.h.toks t, S.f⟩
theorem StF.sub {H' : AH} (S : StF G P sc D ρ H' s) (k : H.le H') : StF G P sc D ρ H s := ⟨S.h.sub k, S.f.sub k⟩
theorem StF.alloc (S : StF G P sc D ρ H s) {h' : Heap} {a : Addr} {o : AO} (ha : s.heap.objs.size ≤ a) (k : ∀ b o, s.heap.get? b = some o → h'.get? b = some o) (r : ORep h' a o) :
    StF G P sc D ρ (H.set a o) { s with heap := h' } :=
  ⟨S.h.alloc ha k r, (S.f.ext k).heap ((AH.set_ne _ _ (Nat.ne_of_lt (Nat.lt_of_lt_of_le S.f.Llt ha))).trans S.f.LH) fun x c e =>
    (AH.set_ne _ _ (Nat.ne_of_lt (Nat.lt_of_lt_of_le (let ⟨_, ho⟩ := S.f.clive x c e; Heap.lt_size ho) ha))).trans (S.f.cH x c e).1⟩
theorem StF.upd (S : StF G P sc D ρ H s) {h' : Heap} {a : Addr} {o o' : AO} (e : H a = some o) (k : Heap.ExtBut a s.heap h') (r : ORep h' a o') : StF G P sc D ρ (H.set a o') { s with heap := h' } := by
  have ne : ∀ c, H c = none → c ≠ a := fun c hc hca => by rw [hca, e] at hc; cases hc
  refine ⟨S.h.upd e k r, (S.f.at (fun ob x => k _ ob (ne _ S.f.LH) x) fun x c hc ob y => k _ ob (ne _ (S.f.cH x c hc).1) y).heap ((AH.set_ne _ _ (ne _ S.f.LH)).trans S.f.LH) fun x c hc => (AH.set_ne _ _ (ne _ (S.f.cH x c hc).1)).trans (S.f.cH x c hc).1⟩
/-- a hidden object is written -/
theorem StF.other (S : StF G P sc D ρ H s) {h' : Heap} {c : Addr} (hH : H c = none) (hP : P c = none) (hL : c ≠ D.L) (hc : ∀ x cc, D.cells.lookup x = some cc → cc ≠ c) (k : Heap.ExtBut c s.heap h') : StF G P sc D ρ H { s with heap := h' } :=
  ⟨S.h.other hH hP k, S.f.at (fun o e => k _ o (Ne.symm hL) e) fun x cc e o y => k _ o (hc x cc e) y⟩
theorem StF.store (S : StF G P sc D ρ H s) {h' : Heap} {x : Str} {v : AV} {w : Value} {m : Str → Option Value} (hl : sc.names.lookup x = some .local) (r : VR v w) (hn : s.heap.Ns D.L m)
    (hn' : h'.Ns D.L fun y => if y = x then some w else m y) (k : Heap.SameBut D.L s.heap h') (t : Nat) : StF G P sc D (ρ.set x v) H { s with heap := h', toks := t } := by
  have F := S.f
  refine ⟨(S.h.other F.LH F.LP k.extBut).toks t, ⟨⟨_, hn', fun y u hy hu => ?_⟩, fun y hy => ?_, F.LP, F.LH, F.cH, fun y c e => ?_, F.cinj, F.cP⟩⟩
  · unfold Loc.set at hu
    by_cases hyx : y = x
    · subst hyx; rw [if_pos rfl] at hu; cases hu; exact ⟨w, if_pos rfl, r⟩
    · rw [if_neg hyx] at hu
      obtain ⟨m', hm', r'⟩ := F.ns
      obtain ⟨u', h1, h2⟩ := r' y u hy hu
      exact ⟨u', by rw [if_neg hyx, ← hm'.agree hn y]; exact h1, h2⟩
  · obtain ⟨c, vo, h1, ⟨o, h2, h3⟩, h4⟩ := F.cell y hy
    refine ⟨c, vo, h1, ⟨o, k.extBut c o (F.cH y c h1).2 h2, h3⟩, fun u hu => h4 u ?_⟩
    unfold Loc.set at hu
    rw [if_neg (by rintro rfl; rw [hl] at hy; cases hy)] at hu; exact hu
  · obtain ⟨o, ho⟩ := F.clive y c e
    exact ⟨o, k.extBut c o (F.cH y c e).2 ho⟩
theorem StF.storeCell (S : StF G P sc D ρ H s) {h' : Heap} {x : Str} {v : AV} {w : Value} {c : Addr} (hf : D.func.isSome = true) (hl : sc.names.lookup x = some .cell) (r : VR v w) (hc : D.cells.lookup x = some c)
    (hn' : h'.IsCell c (some w)) (k : Heap.SameBut c s.heap h') : StF G P sc D (ρ.set x v) H { s with heap := h' } := by
  have F := S.f
  obtain ⟨hH, hL⟩ := F.cH x c hc
  refine ⟨S.h.other hH (F.cP hf x c hc) k.extBut, ⟨?_, fun y hy => ?_, F.LP, F.LH, F.cH, fun y cc e => ?_, F.cinj, F.cP⟩⟩
  · obtain ⟨m, hm, r'⟩ := F.ns
    refine ⟨m, hm.sameBut k (Ne.symm hL), fun y u hy hu => r' y u hy ?_⟩
    unfold Loc.set at hu
    rw [if_neg (by rintro rfl; rw [hl] at hy; cases hy)] at hu; exact hu
  · by_cases hyx : y = x
    · subst hyx
      refine ⟨c, some w, hc, hn', fun u hu => ?_⟩
      unfold Loc.set at hu
      rw [if_pos rfl] at hu; cases hu; exact ⟨w, rfl, r⟩
    · obtain ⟨cc, vo, h1, ⟨o, h2, h3⟩, h4⟩ := F.cell y hy
      refine ⟨cc, vo, h1, ⟨o, k.extBut cc o (fun e => hyx (F.cinj y x c (e ▸ h1) hc)) h2, h3⟩, fun u hu => h4 u ?_⟩
      unfold Loc.set at hu
      rw [if_neg hyx] at hu; exact hu
  · by_cases hcc : cc = c
    · obtain ⟨o, ho, _⟩ := hn'; exact ⟨o, hcc ▸ ho⟩
    · obtain ⟨o, ho⟩ := F.clive y cc e
      exact ⟨o, k.extBut cc o hcc ho⟩

/-- all that is not of the abstract heap -/
noncomputable def hide (H : AH) (h : Heap) : Hid := fun b => if (H b).isSome then none else h.get? b
theorem hide_some {H : AH} {h : Heap} {b : Addr} {o : Obj} (e : hide H h b = some o) : H b = none ∧ h.get? b = some o := by
  unfold hide at e
  split at e
  · cases e
  · rename_i hn; exact ⟨by simpa using hn, e⟩
theorem hide_of {H : AH} {h : Heap} {b : Addr} {o : Obj} (e1 : H b = none) (e2 : h.get? b = some o) : hide H h b = some o := by
  unfold hide; rw [e1]; exact e2
theorem StH.hide (S : StH G P H s) : StH G (hide H s.heap) H s := by
  refine ⟨fun b o e => ?_, fun b o e => (hide_some e).2, S.heap, fun a o e => ?_, S.gens, S.os⟩
  · have hP := S.base b o e
    refine hide_of ?_ (S.keep b o hP)
    cases x : H b with
    | none => rfl
    | some o' => rw [S.apart b o' x] at hP; cases hP
  · unfold Mine.hide; rw [e]; rfl
/-- back from a callee that was handed all but the abstract heap as hidden -/
theorem StH.back {s' : Shared} {H' : AH} (S : StH G P H s) (S' : StH G (Mine.hide H s.heap) H' s') : StH G P H' s' := by
  have le : ∀ b o, P b = some o → Mine.hide H s.heap b = some o := fun b o e => hide_of (by
    cases x : H b with
    | none => rfl
    | some o' => rw [S.apart b o' x] at e; cases e) (S.keep b o e)
  refine ⟨S.base, fun b o e => S'.keep b o (le b o e), S'.heap, fun a o e => ?_, S'.gens, S'.os⟩
  cases x : P a with
  | none => rfl
  | some o' => have := S'.apart a o e; rw [le a o' x] at this; cases this
theorem StF.back {s' : Shared} {H' : AH} (S : StF G P sc D ρ H s) (S' : StH G (Mine.hide H s.heap) H' s') : StF G P sc D ρ H' s' := by
  have hid : ∀ c o, H c = none → s.heap.get? c = some o → s'.heap.get? c = some o ∧ H' c = none := fun c o e h => by
    have h1 := hide_of e h
    refine ⟨S'.keep c o h1, ?_⟩
    cases x : H' c with
    | none => rfl
    | some o' => have := S'.apart c o' x; rw [h1] at this; cases this
  refine ⟨S.h.back S', (S.f.at (fun o e => (hid _ o S.f.LH e).1) fun x c hc o e => (hid c o (S.f.cH x c hc).1 e).1).heap ?_ fun x c hc => ?_⟩
  · obtain ⟨m, ⟨o, _, _, ho, _⟩, _⟩ := S.f.ns; exact (hid _ o S.f.LH ho).2
  · obtain ⟨o, ho⟩ := S.f.clive x c hc; exact (hid c o (S.f.cH x c hc).1 ho).2
theorem StF.ext (S : StF G P sc D ρ H s) {h' : Heap} (k : ∀ b o, s.heap.get? b = some o → h'.get? b = some o) : StF G P sc D ρ H { s with heap := h' } := ⟨S.h.ext k, S.f.ext k⟩
end


structure Room (A : Around) (n : Nat) : Prop where
  handled : A.handled = none
  depth : A.depth + 8 * n + 16 < recursionLimit
  units : A.units + 64 * n + 256 < cLine

theorem Room.in1 {A : Around} {n : Nat} (r : Room A n) : A.in1.handled = none := r.handled

abbrev FF : Value → Shared → Prop := fun _ _ => False

section
variable (G : Gx)
inductive EvP (P : Hid) (sc : Scope) (D : Dyn) (ρ : Loc) (Q : AV → AH → Prop) (v : Value) (s : Shared) : Prop
  | mk (av : AV) (H' : AH) : VR av v → StF G P sc D ρ H' s → Q av H' → EvP P sc D ρ Q v s
inductive EvPs (P : Hid) (sc : Scope) (D : Dyn) (ρ : Loc) (Q : List AV → AH → Prop) (v : List Value) (s : Shared) : Prop
  | mk (av : List AV) (H' : AH) : VRs av v → StF G P sc D ρ H' s → Q av H' → EvPs P sc D ρ Q v s
inductive EvB (P : Hid) (sc : Scope) (D : Dyn) (ρ : Loc) (Q : Bool → AH → Prop) (b : Bool) (s : Shared) : Prop
  | mk (H' : AH) : StF G P sc D ρ H' s → Q b H' → EvB P sc D ρ Q b s
inductive EvU (P : Hid) (sc : Scope) (D : Dyn) (ρ : Loc) (Q : AH → Prop) (u : Unit) (s : Shared) : Prop
  | mk (H' : AH) : StF G P sc D ρ H' s → Q H' → EvU P sc D ρ Q u s

/-- an expression -/
noncomputable def EV (n : Nat) (sc : Scope) (e : Expr) (Q : AV → AH → Prop) (ρ : Loc) (H : AH) : Prop :=
  ∀ A P D s, Room A n → StF G P sc D ρ H s → wpAny (model G.prog G.w) A (eval e (D.env sc)) (EvP G P sc D ρ Q) FF s
/-- expressions one behind the other -/
noncomputable def ES (n : Nat) (sc : Scope) (es : List Expr) (Q : List AV → AH → Prop) (ρ : Loc) (H : AH) : Prop :=
  ∀ A P D s pos, Room A n → StF G P sc D ρ H s → wpAny (model G.prog G.w) A (spliced (backTo pos (starEach es (D.env sc)))) (EvPs G P sc D ρ Q) FF s
/-- a test -/
noncomputable def TV (n : Nat) (sc : Scope) (e : Expr) (Q : Bool → AH → Prop) (ρ : Loc) (H : AH) : Prop :=
  ∀ A P D s, Room A n → StF G P sc D ρ H s → wpAny (model G.prog G.w) A (isTrue e (D.env sc) (eval e (D.env sc))) (EvB G P sc D ρ Q) FF s
noncomputable def TS (n : Nat) (sc : Scope) (op : BoolOp) (es : List Expr) (Q : Bool → AH → Prop) (ρ : Loc) (H : AH) : Prop :=
  ∀ A P D s, Room A n → StF G P sc D ρ H s → wpAny (model G.prog G.w) A (allTrue op es (D.env sc)) (EvB G P sc D ρ Q) FF s
/-- a tree of the machine that knows no frame -/
noncomputable def OP (n : Nat) (t : Sem Value) (Q : AV → AH → Prop) (H : AH) : Prop :=
  ∀ A P sc D ρ s, Room A n → StF G P sc D ρ H s → wpAny (model G.prog G.w) A t (EvP G P sc D ρ Q) FF s
noncomputable def OPU (n : Nat) (t : Sem Unit) (Q : AH → Prop) (H : AH) : Prop :=
  ∀ A P sc D ρ s, Room A n → StF G P sc D ρ H s → wpAny (model G.prog G.w) A t (EvU G P sc D ρ Q) FF s
noncomputable def OPB (n : Nat) (t : Sem Bool) (Q : Bool → AH → Prop) (H : AH) : Prop :=
  ∀ A P sc D ρ s, Room A n → StF G P sc D ρ H s → wpAny (model G.prog G.w) A t (EvB G P sc D ρ Q) FF s
noncomputable def BO (n : Nat) (op : Operator) (a b : AV) (Q : AV → AH → Prop) (H : AH) : Prop := ∀ x y, VR a x → VR b y → OP G n (binaryOp op x y) Q H
noncomputable def UO (n : Nat) (op : UnaryOp) (a : AV) (Q : AV → AH → Prop) (H : AH) : Prop := ∀ x, VR a x → OP G n (unaryOp op x) Q H
noncomputable def CO (n : Nat) (op : CmpOp) (a b : AV) (Q : AV → AH → Prop) (H : AH) : Prop := ∀ x y, VR a x → VR b y → OP G n (compareOp op x y) Q H
noncomputable def TR (n : Nat) (a : AV) (Q : Bool → AH → Prop) (H : AH) : Prop := ∀ x, VR a x → OPB G n (truthy x) Q H
noncomputable def GI (n : Nat) (a b : AV) (Q : AV → AH → Prop) (H : AH) : Prop := ∀ x y, VR a x → VR b y → OP G n (getItem x y) Q H
noncomputable def SI (n : Nat) (a b c : AV) (Q : AH → Prop) (H : AH) : Prop := ∀ x y z, VR a x → VR b y → VR c z → OPU G n (setItem x y z) Q H
end

section
variable {G : Gx} {n : Nat} {sc : Scope} {ρ : Loc} {H : AH} {Q : AV → AH → Prop}

theorem wp_mono {α : Type} {A : Around} {t : Sem α} {Q Q' : α → Shared → Prop} {s : Shared} (h : wpAny (model G.prog G.w) A t Q FF s) (k : ∀ a s', Q a s' → Q' a s') : wpAny (model G.prog G.w) A t Q' FF s :=
  wpAny_mono h k fun _ _ e => e
theorem wp_any {α : Type} {A : Around} {t : Sem α} {Q : α → Shared → Prop} {E : Value → Shared → Prop} {s : Shared} (h : wpAny (model G.prog G.w) A t Q FF s) : wpAny (model G.prog G.w) A t Q E s :=
  wpAny_mono h (fun _ _ e => e) fun _ _ e => e.elim

theorem EV.mono {e : Expr} {Q' : AV → AH → Prop} (h : EV G n sc e Q ρ H) (k : ∀ v H', Q v H' → Q' v H') : EV G n sc e Q' ρ H :=
  fun A P D s r S => wp_mono (h A P D s r S) fun _ _ ⟨av, H', a, b, c⟩ => ⟨av, H', a, b, k _ _ c⟩
theorem OP.mono {t : Sem Value} {Q' : AV → AH → Prop} (h : OP G n t Q H) (k : ∀ v H', Q v H' → Q' v H') : OP G n t Q' H :=
  fun A P sc D ρ s r S => wp_mono (h A P sc D ρ s r S) fun _ _ ⟨av, H', a, b, c⟩ => ⟨av, H', a, b, k _ _ c⟩
/-- garbage is dropped -/
theorem EV.drop {e : Expr} (h : EV G n sc e (fun v H' => ∃ H'', H''.le H' ∧ Q v H'') ρ H) : EV G n sc e Q ρ H :=
  fun A P D s r S => wp_mono (h A P D s r S) fun _ _ ⟨av, _, a, b, ⟨H'', l, c⟩⟩ => ⟨av, H'', a, b.sub l, c⟩

theorem EV.of_val {e : Expr} {av : AV} (k : ∀ A (D : Dyn) (s : Shared) (Q' : Value → Shared → Prop), (∀ v t, VR av v → Q' v { s with toks := t }) → wpAny (model G.prog G.w) A (eval e (D.env sc)) Q' FF s) (h : Q av H) : EV G n sc e Q ρ H :=
  fun A P D s r S => k A D s _ fun v t hv => ⟨av, H, hv, S.toks t, h⟩
theorem EV.int {i : Int} {k : Nat} {p : Pos} (h : Q (.int i) H) : EV G n sc (.Constant (.int i) k p) Q ρ H :=
  EV.of_val (av := .int i) (fun _ _ s _ q => wpAny_Constant_int (q _ _ (.int i _))) h
theorem EV.bool {b : Bool} {k : Nat} {p : Pos} (h : Q (.bool b) H) : EV G n sc (.Constant (.bool b) k p) Q ρ H :=
  EV.of_val (av := .bool b) (fun _ _ s _ q => wpAny_Constant_bool (q _ s.toks (.bool b))) h
theorem EV.str {x : Str} {k : Nat} {p : Pos} (h : Q (.str x) H) : EV G n sc (.Constant (.str x) k p) Q ρ H :=
  EV.of_val (av := .str x) (fun _ _ s _ q => wpAny_Constant_str (q _ _ (.str x _))) h
theorem EV.byt {x : List UInt8} {k : Nat} {p : Pos} (h : Q (.byt x.toArray) H) : EV G n sc (.Constant (.bytes x) k p) Q ρ H :=
  EV.of_val (av := .byt x.toArray) (fun _ _ s _ q => Constant_bytes (q _ _ (.byt _ _))) h

theorem EV.loc {x : Str} {p : Pos} {v : AV} (hk : sc.kind = .function) (hl : sc.names.lookup x = some .local) (hd : (x == ("__debug__" : Str)) = false) (hv : ρ x = some v) (h : Q v H) : EV G n sc (.Name x p) Q ρ H := by
  intro A P D s r S
  obtain ⟨m, hn, hm⟩ := S.f.ns
  obtain ⟨w, hw, hr⟩ := hm x v hl hv
  exact wpAny_Name (wpAny_loadName_local (env := D.env sc) hk hl hn hw ⟨v, H, hr, S, h⟩) hd
theorem EV.cel {x : Str} {p : Pos} {v : AV} (hk : sc.kind = .function) (hl : sc.names.lookup x = some .cell) (hd : (x == ("__debug__" : Str)) = false) (hv : ρ x = some v) (h : Q v H) : EV G n sc (.Name x p) Q ρ H := by
  intro A P D s r S
  obtain ⟨c, vo, h1, h2, h3⟩ := S.f.cell x hl
  obtain ⟨w, rfl, hr⟩ := h3 v hv
  exact wpAny_Name (wpAny_loadName_cell (env := D.env sc) hk hl h1 h2 ⟨v, H, hr, S, h⟩) hd

/-- a global name that holds a plain value or an object of the top -/
noncomputable def GlobIs (G : Gx) (x : Str) (v : AV) : Prop := ∃ w, G.mg x = some w ∧ VR v w
theorem ns_base {P : Hid} {s : Shared} (S : StH G P H s) {a : Addr} {m : Str → Option Value} (hn : G.base.Ns a m) : s.heap.Ns a m := hn.keeps fun _ _ e => S.baseIn e
theorem EV.glob {x : Str} {p : Pos} {v : AV} (hk : sc.kind = .function) (hl : sc.names.lookup x = some .globalImplicit) (hd : (x == ("__debug__" : Str)) = false) (hv : GlobIs G x v) (h : Q v H) : EV G n sc (.Name x p) Q ρ H := by
  intro A P D s r S
  obtain ⟨w, hw, hr⟩ := hv
  exact Name_function_global (env := D.env sc) hk hl (loadGlobal_global (ns_base S.h G.g) hw ⟨v, H, hr, S, h⟩) hd

theorem ES.nil {Q : List AV → AH → Prop} (h : Q [] H) : ES G n sc [] Q ρ H := fun _ _ _ _ _ _ S => wpAny_items_nil ⟨[], H, VRs.nil, S, h⟩
theorem ES.cons {e : Expr} {es : List Expr} {Q : List AV → AH → Prop} (hs : ∀ env, starEach (e :: es) env = (false, eval e env) :: starEach es env) (h : EV G n sc e (fun v H' => ES G n sc es (fun vs H'' => Q (v :: vs) H'') ρ H') ρ H) : ES G n sc (e :: es) Q ρ H := by
  intro A P D s pos r S
  refine wpAny_items_cons (wp_mono (h A P D s r S) fun v s₁ ⟨av, H', hv, S₁, h₁⟩ => ?_) (hs _)
  exact wp_mono (h₁ A P D s₁ pos r S₁) fun vs s₂ ⟨avs, H'', hvs, S₂, h₂⟩ => ⟨av :: avs, H'', VRs.cons hv hvs, S₂, h₂⟩

theorem EV.bin {l r : Expr} {op : Operator} {p : Pos} (h : EV G n sc l (fun a H₁ => EV G n sc r (fun b H₂ => BO G n op a b Q H₂) ρ H₁) ρ H) : EV G n sc (.BinOp l op r p) Q ρ H := by
  intro A P D s ro S
  refine wpAny_BinOp (wp_mono (h A P D s ro S) fun x s₁ ⟨a, H₁, ha, S₁, h₁⟩ => wp_mono (h₁ A P D s₁ ro S₁) fun y s₂ ⟨b, H₂, hb, S₂, h₂⟩ => ?_)
  exact h₂ x y ha hb A P sc D ρ s₂ ro S₂
theorem EV.un {x : Expr} {op : UnaryOp} {p : Pos} (h : EV G n sc x (fun a H₁ => UO G n op a Q H₁) ρ H) : EV G n sc (.UnaryOp op x p) Q ρ H := by
  intro A P D s ro S
  exact wpAny_UnaryOp (wp_mono (h A P D s ro S) fun x s₁ ⟨a, H₁, ha, S₁, h₁⟩ => h₁ x ha A P sc D ρ s₁ ro S₁)
theorem EV.cmp {l r : Expr} {op : CmpOp} {p : Pos} (hm : behindInMarks op r = false) (h : EV G n sc l (fun a H₁ => EV G n sc r (fun b H₂ => CO G n op a b Q H₂) ρ H₁) ρ H) : EV G n sc (.Compare l [op] [r] p) Q ρ H := by
  intro A P D s ro S
  refine wpAny_Compare1 (wp_mono (h A P D s ro S) fun x s₁ ⟨a, H₁, ha, S₁, h₁⟩ => wp_mono (h₁ A P D s₁ ro S₁) fun y s₂ ⟨b, H₂, hb, S₂, h₂⟩ => ?_) hm
  exact h₂ x y ha hb A P sc D ρ s₂ ro S₂
theorem EV.ife {t b o : Expr} {p : Pos} (h : TV G n sc t (fun c H₁ => if c = true then EV G n sc b Q ρ H₁ else EV G n sc o Q ρ H₁) ρ H) : EV G n sc (.IfExp t b o p) Q ρ H := by
  intro A P D s ro S
  refine wpAny_IfExp (wp_mono (h A P D s ro S) fun c s₁ ⟨H₁, S₁, h₁⟩ => ?_)
  cases c
  · exact h₁ A P D s₁ ro S₁
  · exact h₁ A P D s₁ ro S₁
theorem EV.lst {es : List Expr} {p : Pos} (h : ES G n sc es (fun vs H₁ => vs.length ≤ sizeLine ∧ ∀ a, H₁ a = none → Q (.ref a) (H₁.set a (.list vs))) ρ H) : EV G n sc (.List es p) Q ρ H := by
  intro A P D s ro S
  refine wpAny_List (wp_mono (h A P D s p ro S) fun xs s₁ ⟨vs, H₁, hv, S₁, hl, h₁⟩ => ⟨hv.1 ▸ hl, ?_⟩)
  refine ⟨.ref _, _, .ref _, S₁.alloc (o := .list vs) (Nat.le_refl _) (fun b o e => Heap.get?_push_of_some _ e) ⟨xs.toArray, 0, Heap.get?_push_size _ rfl, hv⟩, h₁ _ (S₁.h.fresh (Nat.le_refl _)).1⟩
theorem EV.tup {es : List Expr} {k : Nat} {p : Pos} (h : ES G n sc es (fun vs H₁ => vs.length ≤ sizeLine ∧ ∀ a, H₁ a = none → Q (.ref a) (H₁.set a (.tup vs))) ρ H) : EV G n sc (.Tuple es k p) Q ρ H := by
  intro A P D s ro S
  refine wpAny_Tuple (wp_mono (h A P D s p ro S) fun xs s₁ ⟨vs, H₁, hv, S₁, hl, h₁⟩ => ⟨hv.1 ▸ hl, ?_⟩)
  refine ⟨.ref _, _, .ref _, S₁.alloc (o := .tup vs) (Nat.le_refl _) (fun b o e => Heap.get?_push_of_some _ e) ⟨xs.toArray, 0, Heap.get?_push_size _ rfl, hv⟩, h₁ _ (S₁.h.fresh (Nat.le_refl _)).1⟩

/- tests -/
theorem TV.cmp {l r : Expr} {op : CmpOp} {p : Pos} {Q : Bool → AH → Prop} (hm : behindInMarks op r = false) (h : EV G n sc l (fun a H₁ => EV G n sc r (fun b H₂ => CO G n op a b (fun v H₃ => TR G n v Q H₃) H₂) ρ H₁) ρ H) : TV G n sc (.Compare l [op] [r] p) Q ρ H := by
  intro A P D s ro S
  refine wpAny_isTrue_Compare1 (wp_mono (h A P D s ro S) fun x s₁ ⟨a, H₁, ha, S₁, h₁⟩ => wp_mono (h₁ A P D s₁ ro S₁) fun y s₂ ⟨b, H₂, hb, S₂, h₂⟩ => ?_) hm
  exact wp_mono (h₂ x y ha hb A P sc D ρ s₂ ro S₂) fun v s₃ ⟨av, H₃, hv, S₃, h₃⟩ => h₃ v hv A P sc D ρ s₃ ro S₃
theorem TV.not {x : Expr} {p : Pos} {Q : Bool → AH → Prop} (h : TV G n sc x (fun b H₁ => Q (!b) H₁) ρ H) : TV G n sc (.UnaryOp .Not x p) Q ρ H := by
  intro A P D s ro S
  exact wpAny_isTrue_Not (wp_mono (h A P D s ro S) fun _ _ ⟨H', a, b⟩ => ⟨H', a, b⟩)
theorem TV.bool {op : BoolOp} {es : List Expr} {p : Pos} {Q : Bool → AH → Prop} (h : TS G n sc op es Q ρ H) : TV G n sc (.BoolOp op es p) Q ρ H := by
  intro A P D s ro S
  exact wpAny_isTrue_BoolOp (h A P D s ro S)
theorem TV.val {e : Expr} {Q : Bool → AH → Prop} (he : ∀ env whole, isTrue e env whole = (do let v ← whole; standAt e.pos; holding [v] (truthy v))) (h : EV G n sc e (fun v H₁ => TR G n v Q H₁) ρ H) : TV G n sc e Q ρ H := by
  intro A P D s ro S
  exact wpAny_isTrue_value (wp_mono (h A P D s ro S) fun x s₁ ⟨a, H₁, ha, S₁, h₁⟩ => h₁ x ha A P sc D ρ s₁ ro S₁) (he _ _)
theorem TS.andNil {Q : Bool → AH → Prop} (h : Q true H) : TS G n sc .And [] Q ρ H := fun _ _ _ _ _ S => wpAny_allTrue_And_nil ⟨H, S, h⟩
theorem TS.orNil {Q : Bool → AH → Prop} (h : Q false H) : TS G n sc .Or [] Q ρ H := fun _ _ _ _ _ S => wpAny_allTrue_Or_nil ⟨H, S, h⟩
theorem TS.andCons {x : Expr} {r : List Expr} {Q : Bool → AH → Prop} (h : TV G n sc x (fun b H₁ => if b = true then TS G n sc .And r Q ρ H₁ else Q false H₁) ρ H) : TS G n sc .And (x :: r) Q ρ H := by
  intro A P D s ro S
  refine wpAny_allTrue_And_cons (wp_mono (h A P D s ro S) fun c s₁ ⟨H₁, S₁, h₁⟩ => ?_)
  cases c
  · exact ⟨H₁, S₁, h₁⟩
  · exact h₁ A P D s₁ ro S₁
theorem TS.orCons {x : Expr} {r : List Expr} {Q : Bool → AH → Prop} (h : TV G n sc x (fun b H₁ => if b = true then Q true H₁ else TS G n sc .Or r Q ρ H₁) ρ H) : TS G n sc .Or (x :: r) Q ρ H := by
  intro A P D s ro S
  refine wpAny_allTrue_Or_cons (wp_mono (h A P D s ro S) fun c s₁ ⟨H₁, S₁, h₁⟩ => ?_)
  cases c
  · exact h₁ A P D s₁ ro S₁
  · exact ⟨H₁, S₁, h₁⟩

/- subscripts -/
theorem tail_gi {value slice : Expr} {A : Around} {o i : Value} {Q : Value → Shared → Prop} {s : Shared} {T id : String} (hT : s.TypeIs o T) (hl : typeLookup (.type T) "__getitem__" = pure (some (.builtin id)))
    (hs : subscripted slice false o i = operate [o, i] (getItem o i) ∨ subscripted slice false o i = operate [i, o] (getItem o i)) (h : wpAny (model G.prog G.w) A (getItem o i) Q FF s) :
    wpAny (model G.prog G.w) A (do let r ← subscripted slice (← getitemInPython o) o i; letTemporaryGo value o r; pure r) Q FF s := by
  refine wpAny_bind ?_
  rw [getitemInPython_of_ne hT.not_modules]
  refine wpAny_bind (wpAny_specialOf hT hl ?_)
  have fin : ∀ t, wpAny (model G.prog G.w) A t Q FF s → ∀ l, wpAny (model G.prog G.w) A (operate l t) (fun r s₃ => wpAny (model G.prog G.w) A (letTemporaryGo value o r >>= fun _ => pure r) Q FF s₃) FF s := fun t ht l =>
    wpAny_operating (wp_mono ht fun r s₃ h₃ => wpAny_bind (wpAny_letTemporaryGo (wpAny_pure h₃)))
  refine wpAny_pure (wpAny_bind ?_)
  rcases hs with e | e
  · rw [e]; exact fin _ h _
  · rw [e]; exact fin _ h _

theorem EV.sub {value slice : Expr} {p : Pos} (hs : ∀ o i, subscripted slice false o i = operate [o, i] (getItem o i))
    (h : EV G n sc value (fun a H₁ => EV G n sc slice (fun b H₂ => (∃ r, a = .ref r ∧ ((∃ vs, H₂ r = some (.list vs)) ∨ ∃ vs, H₂ r = some (.tup vs))) ∧ GI G n a b Q H₂) ρ H₁) ρ H) : EV G n sc (.Subscript value slice p) Q ρ H := by
  intro A P D s ro S
  rw [eval_Subscript]
  refine wpAny_bind (wp_mono (h A P D s ro S) fun x s₁ ⟨a, H₁, ha, S₁, h₁⟩ => wpAny_bind (wpAny_holding (wp_mono (h₁ A P D s₁ ro S₁) fun y s₂ ⟨b, H₂, hb, S₂, ⟨r, e, hl⟩, h₂⟩ => wpAny_bind (wpAny_standAt ?_))))
  subst e
  cases ha
  rcases hl with ⟨vs, hl⟩ | ⟨vs, hl⟩
  · obtain ⟨xs, k, hx, _⟩ := S₂.h.heap _ _ hl
    exact tail_gi ⟨_, hx, rfl⟩ slot_list_getitem.lookup (.inl (hs _ _)) (h₂ _ y (.ref _) hb A P sc D ρ s₂ ro S₂)
  · obtain ⟨xs, k, hx, _⟩ := S₂.h.heap _ _ hl
    exact tail_gi ⟨_, hx, rfl⟩ F.slot_tuple_getitem.lookup (.inl (hs _ _)) (h₂ _ y (.ref _) hb A P sc D ρ s₂ ro S₂)
end


section
variable {G : Gx} {n : Nat} {H : AH} {Q : AV → AH → Prop}

/-- a value that the machine makes without a look at the heap -/
theorem OP.of_val {t : Sem Value} {av : AV} (k : ∀ A (s : Shared) (Q' : Value → Shared → Prop), A.handled = none → (∀ v tk, VR av v → Q' v { s with toks := tk }) → wpAny (model G.prog G.w) A t Q' FF s) (h : Q av H) : OP G n t Q H :=
  fun A P sc D ρ s r S => k A s _ r.handled fun v tk hv => ⟨av, H, hv, S.toks tk, h⟩
theorem OPB.of_val {t : Sem Bool} {b : Bool} {Q : Bool → AH → Prop} (k : ∀ A (s : Shared) (Q' : Bool → Shared → Prop), (∀ tk, Q' b { s with toks := tk }) → wpAny (model G.prog G.w) A t Q' FF s) (h : Q b H) : OPB G n t Q H :=
  fun A P sc D ρ s r S => k A s _ fun tk => ⟨H, S.toks tk, h⟩

theorem BO.add {a b : Int} (h : Q (.int (a + b)) H) : BO G n .Add (.int a) (.int b) Q H := by
  rintro _ _ ⟨⟩ ⟨⟩; exact OP.of_val (av := .int (a + b)) (fun A s Q' _ q => P.add_int (q _ _ (.int _ _))) h
theorem BO.sub {a b : Int} (h : Q (.int (a - b)) H) : BO G n .Sub (.int a) (.int b) Q H := by
  rintro _ _ ⟨⟩ ⟨⟩; exact OP.of_val (av := .int (a - b)) (fun A s Q' _ q => P.sub_int (q _ _ (.int _ _))) h
theorem BO.mul {a b : Int} (hb : -(2 ^ 64) < a ∧ a < 2 ^ 64) (h : Q (.int (a * b)) H) : BO G n .Mult (.int a) (.int b) Q H := by
  rintro _ _ ⟨⟩ ⟨⟩; exact OP.of_val (av := .int (a * b)) (fun A s Q' _ q => P.mul_int (q _ _ (.int _ _)) (.of_left (intBits_le_64 hb.1 hb.2))) h
theorem BO.mod {a b : Int} (hb : b ≠ 0) (h : Q (.int (a.fmod b)) H) : BO G n .Mod (.int a) (.int b) Q H := by
  rintro _ _ ⟨⟩ ⟨⟩; exact OP.of_val (av := .int (a.fmod b)) (fun A s Q' hh q => mod_int_or hh (fun e => absurd e hb) fun _ => q _ _ (.int _ _)) h
theorem BO.fdiv {a b : Int} (hb : b ≠ 0) (hb' : b.natAbs < 1073741824) (h : Q (.int (a.fdiv b)) H) : BO G n .FloorDiv (.int a) (.int b) Q H := by
  rintro _ _ ⟨⟩ ⟨⟩; exact OP.of_val (av := .int (a.fdiv b)) (fun A s Q' hh q => floordiv_int_or hh (fun e => absurd e hb) (fun _ => q _ _ (.int _ _)) (fun _ => .inl (PyProof.noPylong_small hb'))) h
theorem BO.shl {a b : Int} (h0 : 0 ≤ b) (h1 : b ≤ 1000) (ha : a.natAbs < 2 ^ 64) (h : Q (.int (a * 2 ^ b.toNat)) H) : BO G n .LShift (.int a) (.int b) Q H := by
  rintro _ _ ⟨⟩ ⟨⟩; exact OP.of_val (av := .int (a * 2 ^ b.toNat)) (fun A s Q' hh q => lshift_int_small h0 (by (first | lia | omega)) ha (q _ _ (.int _ _))) h
theorem BO.shr {a b : Int} (h0 : 0 ≤ b) (h : Q (.int (a.fdiv (2 ^ b.toNat))) H) : BO G n .RShift (.int a) (.int b) Q H := by
  rintro _ _ ⟨⟩ ⟨⟩; exact OP.of_val (av := .int (a.fdiv (2 ^ b.toNat))) (fun A s Q' hh q => rshift_int h0 (q _ _ (.int _ _))) h
theorem BO.and {a b : Int} (h : Q (.int (Builtin.bitAnd a b)) H) : BO G n .BitAnd (.int a) (.int b) Q H := by
  rintro _ _ ⟨⟩ ⟨⟩; exact OP.of_val (av := .int (Builtin.bitAnd a b)) (fun A s Q' hh q => and_int (q _ _ (.int _ _))) h
theorem BO.or {a b : Int} (h : Q (.int (Builtin.bitOr a b)) H) : BO G n .BitOr (.int a) (.int b) Q H := by
  rintro _ _ ⟨⟩ ⟨⟩; exact OP.of_val (av := .int (Builtin.bitOr a b)) (fun A s Q' hh q => or_int (q _ _ (.int _ _))) h
theorem UO.inv {a : Int} (h : Q (.int (Builtin.bitNot a)) H) : UO G n .Invert (.int a) Q H := by
  rintro _ ⟨⟩; exact OP.of_val (av := .int (Builtin.bitNot a)) (fun A s Q' hh q => invert_int (q _ _ (.int _ _))) h
theorem UO.neg {a : Int} (h : Q (.int (-a)) H) : UO G n .USub (.int a) Q H := by
  rintro _ ⟨⟩; exact OP.of_val (av := .int (-a)) (fun A s Q' hh q => P.neg_int (q _ _ (.int _ _))) h

theorem CO.eqi {a b : Int} (h : Q (.bool (a == b)) H) : CO G n .Eq (.int a) (.int b) Q H := by
  rintro _ _ ⟨⟩ ⟨⟩; exact OP.of_val (av := .bool (a == b)) (fun A s Q' _ q => P.eq_int (q _ s.toks (.bool _))) h
theorem CO.nei {a b : Int} (h : Q (.bool (a != b)) H) : CO G n .NotEq (.int a) (.int b) Q H := by
  rintro _ _ ⟨⟩ ⟨⟩; exact OP.of_val (av := .bool (a != b)) (fun A s Q' _ q => P.ne_int (q _ s.toks (.bool _))) h
theorem CO.lti {a b : Int} (h : Q (.bool (decide (a < b))) H) : CO G n .Lt (.int a) (.int b) Q H := by
  rintro _ _ ⟨⟩ ⟨⟩; exact OP.of_val (av := .bool (decide (a < b))) (fun A s Q' _ q => P.lt_int (q _ s.toks (.bool _))) h
theorem CO.gti {a b : Int} (h : Q (.bool (decide (a > b))) H) : CO G n .Gt (.int a) (.int b) Q H := by
  rintro _ _ ⟨⟩ ⟨⟩; exact OP.of_val (av := .bool (decide (a > b))) (fun A s Q' _ q => P.gt_int (q _ s.toks (.bool _))) h
theorem CO.gei {a b : Int} (h : Q (.bool (decide (a ≥ b))) H) : CO G n .GtE (.int a) (.int b) Q H := by
  rintro _ _ ⟨⟩ ⟨⟩; exact OP.of_val (av := .bool (decide (a ≥ b))) (fun A s Q' _ q => P.ge_int (q _ s.toks (.bool _))) h
theorem CO.eqs {a b : Str} (h : Q (.bool (a == b)) H) : CO G n .Eq (.str a) (.str b) Q H := by
  rintro _ _ ⟨⟩ ⟨⟩; exact OP.of_val (av := .bool (a == b)) (fun A s Q' _ q => PyProof.Rows.eq_str (q _ s.toks (.bool _))) h
theorem CO.nes {a b : Str} (h : Q (.bool (a != b)) H) : CO G n .NotEq (.str a) (.str b) Q H := by
  rintro _ _ ⟨⟩ ⟨⟩; exact OP.of_val (av := .bool (a != b)) (fun A s Q' _ q => PyProof.Rows.ne_str (q _ s.toks (.bool _))) h

theorem TR.bool {b : Bool} {Q : Bool → AH → Prop} (h : Q b H) : TR G n (.bool b) Q H := by
  rintro _ ⟨⟩; exact OPB.of_val (fun A s Q' q => wpAny_truthy_bool (q s.toks)) h

/- lists -/
theorem sizeLine_is : sizeLine = 2 ^ 24 := rfl
theorem BO.cat {l b : Addr} {vs us : List AV} (hl : H l = some (.list vs)) (hb : H b = some (.list us)) (hz : vs.length + us.length ≤ sizeLine) (h : ∀ a, H a = none → Q (.ref a) (H.set a (.list (vs ++ us)))) :
    BO G n .Add (.ref l) (.ref b) Q H := by
  rintro _ _ ⟨⟩ ⟨⟩ A P sc D ρ s r S
  obtain ⟨xs, k, hx, rx⟩ := S.h.heap _ _ hl
  obtain ⟨ys, j, hy, ry⟩ := S.h.heap _ _ hb
  have e1 : vs.length = xs.size := by simpa using rx.1
  have e2 : us.length = ys.size := by simpa using ry.1
  refine PySem.P.add_list hx hy ⟨.ref _, _, .ref _, S.alloc (o := .list (vs ++ us)) (Nat.le_refl _) (fun b o e => Heap.get?_push_of_some _ e) ⟨_, 0, Heap.get?_push_size _ rfl, ?_⟩, h _ (S.h.fresh (Nat.le_refl _)).1⟩ (by rw [← e1, ← e2]; exact hz)
  rw [Array.toList_append]; exact rx.append ry

theorem foldl_append_replicate (items : Array Value) : ∀ (k : Nat) (acc : Array Value), (List.foldl (fun x1 x2 => x1 ++ x2) acc (List.replicate k items)).toList = acc.toList ++ (List.replicate k items.toList).flatten := by
  intro k
  induction k with
  | zero => intro acc; simp
  | succ k ih => intro acc; rw [List.replicate_succ, List.foldl_cons, ih]; simp [List.replicate_succ, List.append_assoc]
theorem VRs.rep {vs : List AV} {xs : List Value} (h : VRs vs xs) : ∀ k : Nat, VRs (List.replicate k vs).flatten (List.replicate k xs).flatten := by
  intro k
  induction k with
  | zero => exact VRs.nil
  | succ k ih => simp only [List.replicate_succ, List.flatten_cons]; exact h.append ih
theorem BO.rep {l : Addr} {v : AV} {x : Int} (hl : H l = some (.list [v])) (h0 : 0 ≤ x) (h1 : x ≤ 2 ^ 20) (h : ∀ a, H a = none → Q (.ref a) (H.set a (.list (List.replicate x.toNat v)))) :
    BO G n .Mult (.ref l) (.int x) Q H := by
  rintro _ y ⟨⟩ hy A P sc D ρ s r S
  obtain ⟨u, rfl⟩ : ∃ u, y = .int x u := by cases hy; exact ⟨_, rfl⟩
  obtain ⟨items, k, hx, rx⟩ := S.h.heap _ _ hl
  have e2 : items.size = 1 := by simpa using rx.1.symm
  have hne : items.isEmpty = false := by simp [Array.isEmpty, e2]
  refine wpAny_binaryOp_repeat_ref (T := "list") (U := "int") (by decide) ⟨_, hx, rfl⟩ (fun s' => typeIs_int s' x u) noFill_list_mul F.fills_int_mul F.slot_int_rmul repeat_list F.slot_int_index.lookup
    (call_meets F.slot_int_rmul (typeIs_int s x u) F.entry_int_rmul (F.args_int_rmul_2 _ _) (int___rmul___int_list x u l items k)
      ⟨hx, rfl, ⟨_, hx, rfl⟩, call_meets F.slot_list_mul ⟨_, hx, rfl⟩ F.entry_list_mul (F.args_list_mul_2 _ _)
        (AutoListH.list___mul___list_int_3 l items k x u (by simp [Builtin.List.listFitsIndex]; (first | lia | omega)) (by rw [e2]; (first | lia | omega)) (by simp [Builtin.List.listTooLong, sizeLine, e2]; (first | lia | omega)))
        ⟨hx, ?_⟩⟩)
  refine ⟨.ref _, _, .ref _, S.alloc (o := .list (List.replicate x.toNat v)) (Nat.le_refl _) (fun b o e => Heap.get?_push_of_some _ e) ⟨_, 0, Heap.get?_push_size _ rfl, ?_⟩, h _ (S.h.fresh (Nat.le_refl _)).1⟩
  rw [hne]
  simp only [Bool.false_eq_true, if_false]
  rw [foldl_append_replicate]
  have := rx.rep x.toNat
  simpa using this

theorem arr_get {xs : Array Value} {i : Nat} {x : Value} (h : xs.toList[i]? = some x) : xs[i]? = some x := by simpa using h
theorem GI.list {l : Addr} {vs : List AV} {k : Int} {v : AV} (hl : H l = some (.list vs)) (h0 : 0 ≤ k) (h1 : k < 2 ^ 62) (hv : vs[k.toNat]? = some v) (h : Q v H) : GI G n (.ref l) (.int k) Q H := by
  rintro _ _ ⟨⟩ ⟨⟩ A P sc D ρ s r S
  obtain ⟨xs, j, hx, rx⟩ := S.h.heap _ _ hl
  obtain ⟨x, h2, h3⟩ := rx.get hv
  exact wpAny_getItem_list ⟨_, hx, rfl, _, rfl⟩ h0 (by (first | lia | omega)) (arr_get h2) ⟨v, H, h3, S, h⟩
theorem GI.listNeg {l : Addr} {vs : List AV} {k : Int} {v : AV} (hl : H l = some (.list vs)) (h0 : k < 0) (h1 : -(vs.length : Int) ≤ k) (h2 : -(2 ^ 62) < k) (hv : vs[(k + vs.length).toNat]? = some v) (h : Q v H) : GI G n (.ref l) (.int k) Q H := by
  rintro _ _ ⟨⟩ ⟨⟩ A P sc D ρ s r S
  obtain ⟨xs, j, hx, rx⟩ := S.h.heap _ _ hl
  have e : vs.length = xs.size := by simpa using rx.1
  obtain ⟨x, h3, h4⟩ := rx.get hv
  exact wpAny_getItem_list_neg ⟨_, hx, rfl, _, rfl⟩ h0 (by (first | lia | omega)) (by (first | lia | omega)) (arr_get (by rw [← e]; exact h3)) ⟨v, H, h4, S, h⟩
theorem GI.tup {l : Addr} {vs : List AV} {k : Int} {v : AV} (hl : H l = some (.tup vs)) (h0 : 0 ≤ k) (h1 : k < 2 ^ 62) (hv : vs[k.toNat]? = some v) (h : Q v H) : GI G n (.ref l) (.int k) Q H := by
  rintro _ _ ⟨⟩ ⟨⟩ A P sc D ρ s r S
  obtain ⟨xs, j, hx, rx⟩ := S.h.heap _ _ hl
  have e : vs.length = xs.size := by simpa using rx.1
  have hk := (List.getElem?_eq_some_iff.mp hv).1
  obtain ⟨x, h3, h4⟩ := rx.get hv
  exact PySem.P.getItem_tuple hx (by (first | lia | omega)) (by (first | lia | omega)) (seqIndex_of h0 (by (first | lia | omega))) (arr_get h3) ⟨v, H, h4, S, h⟩

theorem VRs.toList_set {vs : List AV} {xs : Array Value} (h : VRs vs xs.toList) {v : AV} {x : Value} (k : VR v x) (i : Nat) : VRs (vs.set i v) (xs.setIfInBounds i x).toList := by
  rw [Array.toList_setIfInBounds]; exact h.set k i
theorem setItem_plain {A : Around} {s : Shared} {l : Addr} {xs : Array Value} {j i : Nat} {k : Int} {t : Tok} {v : Value} {Q : Unit → Shared → Prop}
    (hx : s.heap.get? l = some { cls := .type "list", dict := none, data := .seq xs j, slots := #[] }) (hf : Builtin.List.listFitsIndex k = true) (hi : seqIndex? k xs.size = some i) (hn : i < xs.size)
    (hQ : Q () { s with heap := s.heap.update l (Obj.mapSeq (·.setIfInBounds i v)) }) : wpAny (model G.prog G.w) A (setItem (.ref l) (.int k t) v) Q FF s := by
  have hl : s.heap.IsList l xs := ⟨_, hx, rfl, _, rfl⟩
  unfold setItem
  try with_reducible refine wpAny_holding ?_
  first | refine wpAny_bind (wpAny_pure ?_) | skip
  refine wpAny_bind (wpAny_sequenceKey hl.typeIs (by decide) ?_)
  refine wpAny_bind (wpAny_callSpecial?_slot (name := Str.ofString "__setitem__") hl.typeIs slot_list_setitem
    (wpAny_call_entry slot_list_setitem hl.typeIs entry_list_setitem ?_ (args_list_setitem _ _ _)))
  show wpAny _ _ (Builtin.List.listSubscript? (.int k t) >>= _) _ _ s
  refine wpAny_bind (wpAny_listSubscript_int hf ?_)
  have hx' : xs[i]? = some xs[i] := Array.getElem?_eq_getElem hn
  have fin : ∀ (Q' : Fin → Shared → Prop), Q' (.done (.ret .none)) { s with heap := s.heap.update l (Obj.mapSeq (·.setIfInBounds i v)) } →
      wpAny (model G.prog G.w) A.in1 (setSeqItemAt l i v >>= fun _ => ret .none) Q' FF s := fun Q' hq => wpAny_bind (wpAny_setSeqItemAt hx rfl (wpAny_pure hq))
  cases k with
  | ofNat m =>
    have hm : i = m := by
      unfold seqIndex? at hi
      simp at hi
      (first | lia | omega)
    subst hm
    show wpAny _ _ ((seqItemAt l i >>= fun r => pure (r.map (i, ·))) >>= _) _ _ s
    refine wpAny_bind (wpAny_bind (wpAny_seqItemAt hx rfl (wpAny_pure ?_)))
    rw [hx']
    exact fin _ ⟨.none, rfl, wpAny_pure hQ⟩
  | negSucc m =>
    show wpAny _ _ ((Builtin.List.listItems (.ref l) >>= fun xs => pure ((seqIndex? (Int.negSucc m) xs.size).bind fun i => xs[i]?.map (i, ·))) >>= _) _ _ s
    refine wpAny_bind (wpAny_bind ?_)
    show wpAny _ _ (seqItems? (.ref l) >>= _) _ _ s
    refine wpAny_bind (wpAny_seqItems hx rfl (wpAny_pure (wpAny_pure ?_)))
    rw [hi]
    simp only [Option.bind_some, hx', Option.map_some]
    exact fin _ ⟨.none, rfl, wpAny_pure hQ⟩
theorem SI.any {l : Addr} {vs : List AV} {k : Int} {i : Nat} {v : AV} {Q : AH → Prop} (hl : H l = some (.list vs)) (hf : -(2 ^ 62) < k ∧ k < 2 ^ 62) (hi : seqIndex? k vs.length = some i) (hn : i < vs.length)
    (h : Q (H.set l (.list (vs.set i v)))) : SI G n (.ref l) (.int k) v Q H := by
  rintro _ y z ⟨⟩ hy hz A P sc D ρ s r S
  obtain ⟨t, rfl⟩ : ∃ t, y = .int k t := by cases hy; exact ⟨_, rfl⟩
  obtain ⟨xs, j, hx, rx⟩ := S.h.heap _ _ hl
  have e : vs.length = xs.size := by simpa using rx.1
  refine setItem_plain hx (by unfold Builtin.List.listFitsIndex; simp only [Bool.and_eq_true, decide_eq_true_eq]; (first | lia | omega)) (e ▸ hi) (e ▸ hn) ?_
  refine ⟨_, S.upd (o' := .list (vs.set i v)) hl (Heap.SameBut.update ..).extBut ⟨_, _, (Heap.get?_update_self _ hx rfl).trans rfl, rx.toList_set hz i⟩, h⟩
theorem SI.list {l : Addr} {vs : List AV} {k : Int} {v : AV} {Q : AH → Prop} (hl : H l = some (.list vs)) (h0 : 0 ≤ k) (h1 : k < 2 ^ 62) (hn : k < vs.length) (h : Q (H.set l (.list (vs.set k.toNat v)))) : SI G n (.ref l) (.int k) v Q H :=
  SI.any hl (by (first | lia | omega)) (seqIndex_of h0 (by (first | lia | omega))) (by (first | lia | omega)) h
theorem SI.last {l : Addr} {vs : List AV} {v : AV} {Q : AH → Prop} (hl : H l = some (.list vs)) (h0 : vs ≠ []) (h : Q (H.set l (.list (vs.set (vs.length - 1) v)))) : SI G n (.ref l) (.int (-1)) v Q H := by
  have := List.length_pos_iff.mpr h0
  refine SI.any (i := vs.length - 1) hl (by (first | lia | omega)) ((seqIndex_neg (by (first | lia | omega)) (by (first | lia | omega))).trans ?_) (by (first | lia | omega)) h
  congr 1; (first | lia | omega)
end

open PySem.SeqAt

/-- the kinds of data that are compared -/
inductive Ty where
  | I | B | Y
  | L (t : Ty)
  | T (t : Ty)
  | nil
  | cons (a r : Ty)
  | tupOf (r : Ty)
  | lstOf (r : Ty)
abbrev Ty.den : Ty → Type
  | .I => Int
  | .B => Bool
  | .Y => Array UInt8
  | .L t => List t.den
  | .T t => List t.den
  | .nil => Unit
  | .cons a r => a.den × r.den
  | .tupOf r => r.den
  | .lstOf r => r.den
noncomputable def allB {α β : Type} (f : α → β → Bool) : List α → List β → Bool
  | [], [] => true
  | a :: r, b :: t => f a b && allB f r t
  | _, _ => false
noncomputable def Ty.beq : (t : Ty) → t.den → t.den → Bool
  | .I, a, b => decide ((a : Int) = b)
  | .B, a, b => (a : Bool) == b
  | .Y, a, b => (a : Array UInt8).toList == b.toList
  | .L t, a, b => allB t.beq a b
  | .T t, a, b => allB t.beq a b
  | .nil, _, _ => true
  | .cons a r, x, y => a.beq x.1 y.1 && r.beq x.2 y.2
  | .tupOf r, x, y => r.beq x y
  | .lstOf r, x, y => r.beq x y
noncomputable def Ty.dep : Ty → Nat
  | .L t => t.dep + 1
  | .T t => t.dep + 1
  | .cons a r => max a.dep r.dep
  | .tupOf r => r.dep + 1
  | .lstOf r => r.dep + 1
  | _ => 0
theorem allB_eq {α : Type} {f : α → α → Bool} (hf : ∀ a b, f a b = true ↔ a = b) : ∀ l r : List α, allB f l r = true ↔ l = r
  | [], [] => by simp [allB]
  | [], _ :: _ => by simp [allB]
  | _ :: _, [] => by simp [allB]
  | a :: l, b :: r => by simp [allB, hf, allB_eq hf l r]
theorem Ty.beq_eq : ∀ (t : Ty) (a b : t.den), t.beq a b = true ↔ a = b
  | .I, a, b => by simp [Ty.beq]
  | .B, a, b => by simp [Ty.beq]
  | .Y, a, b => by
    simp only [Ty.beq, beq_iff_eq]
    exact Array.toList_inj
  | .L t, a, b => allB_eq t.beq_eq a b
  | .T t, a, b => allB_eq t.beq_eq a b
  | .nil, a, b => by simp [Ty.beq]
  | .cons x r, a, b => by
    obtain ⟨a1, a2⟩ := a; obtain ⟨b1, b2⟩ := b
    simp only [Ty.beq, Bool.and_eq_true, x.beq_eq, r.beq_eq, Prod.mk.injEq]
  | .tupOf r, a, b => r.beq_eq a b
  | .lstOf r, a, b => r.beq_eq a b

/-- pairs of like places -/
noncomputable def All2 {α β : Type} (R : α → β → Prop) : List α → List β → Prop
  | [], [] => True
  | a :: r, b :: t => R a b ∧ All2 R r t
  | _, _ => False
mutual
/-- the value, read in the heap -/
noncomputable def Rd (H : AH) : (t : Ty) → AV → t.den → Prop
  | .I, v, d => v = .int d
  | .B, v, d => v = .bool d
  | .Y, v, d => v = .byt d
  | .L t, v, d => ∃ l vs, v = .ref l ∧ H l = some (.list vs) ∧ All2 (Rd H t) vs d
  | .T t, v, d => ∃ l vs, v = .ref l ∧ H l = some (.tup vs) ∧ All2 (Rd H t) vs d
  | .tupOf r, v, d => ∃ l vs, v = .ref l ∧ H l = some (.tup vs) ∧ RdR H r vs d
  | .lstOf r, v, d => ∃ l vs, v = .ref l ∧ H l = some (.list vs) ∧ RdR H r vs d
  | _, _, _ => False
noncomputable def RdR (H : AH) : (t : Ty) → List AV → t.den → Prop
  | .nil, vs, _ => vs = []
  | .cons a r, vs, d => ∃ v us, vs = v :: us ∧ Rd H a v d.1 ∧ RdR H r us d.2
  | _, _, _ => False
end

theorem All2.length {α β : Type} {R : α → β → Prop} : ∀ {l : List α} {r : List β}, All2 R l r → l.length = r.length
  | [], [], _ => rfl
  | [], _ :: _, h => h.elim
  | _ :: _, [], h => h.elim
  | a :: l, b :: r, h => by simp [All2.length h.2]
theorem All2.get {α β : Type} {R : α → β → Prop} : ∀ {l : List α} {r : List β}, All2 R l r → ∀ (i : Nat) (h1 : i < l.length) (h2 : i < r.length), R l[i] r[i]
  | [], _, _, i, h1, _ => absurd h1 (Nat.not_lt_zero _)
  | _ :: _, [], h, _, _, _ => h.elim
  | a :: l, b :: r, h, 0, _, _ => h.1
  | a :: l, b :: r, h, i + 1, h1, h2 => All2.get h.2 i (by simpa using h1) (by simpa using h2)
theorem All2.of {α β : Type} {R : α → β → Prop} : ∀ {l : List α} {r : List β}, l.length = r.length → (∀ (i : Nat) (h1 : i < l.length) (h2 : i < r.length), R l[i] r[i]) → All2 R l r
  | [], [], _, _ => trivial
  | [], _ :: _, h, _ => by simp at h
  | _ :: _, [], h, _ => by simp at h
  | a :: l, b :: r, h, k => ⟨k 0 (by simp) (by simp), All2.of (by simpa using h) fun i h1 h2 => k (i + 1) (by simpa using h1) (by simpa using h2)⟩
theorem All2.map {α β : Type} {R : α → β → Prop} {f : β → α} (h : ∀ b, R (f b) b) : ∀ l : List β, All2 R (l.map f) l
  | [] => trivial
  | b :: r => ⟨h b, All2.map h r⟩
theorem All2.fun {α β : Type} {R : α → β → Prop} : ∀ {l : List α} {r t : List β}, (∀ a b c, R a b → R a c → b = c) → All2 R l r → All2 R l t → r = t
  | [], [], [], _, _, _ => rfl
  | [], _ :: _, _, _, h, _ => h.elim
  | [], _, _ :: _, _, _, h => h.elim
  | _ :: _, [], _, _, h, _ => h.elim
  | _ :: _, _, [], _, _, h => h.elim
  | a :: l, b :: r, c :: t, f, h, k => by rw [f a b c h.1 k.1, All2.fun f h.2 k.2]
theorem All2.mono {α β : Type} {R S : α → β → Prop} (k : ∀ a b, R a b → S a b) : ∀ {l : List α} {r : List β}, All2 R l r → All2 S l r
  | [], [], _ => trivial
  | [], _ :: _, h => h.elim
  | _ :: _, [], h => h.elim
  | a :: l, b :: r, h => ⟨k _ _ h.1, All2.mono k h.2⟩

mutual
theorem Rd.fun {H : AH} : ∀ {t : Ty} {v : AV} {d d' : t.den}, Rd H t v d → Rd H t v d' → d = d'
  | .I, v, d, d', h, k => by simp only [Rd] at h k; rw [h] at k; injection k
  | .B, v, d, d', h, k => by simp only [Rd] at h k; rw [h] at k; injection k
  | .Y, v, d, d', h, k => by simp only [Rd] at h k; rw [h] at k; injection k
  | .L t, v, d, d', h, k => by
    simp only [Rd] at h k
    obtain ⟨l, vs, rfl, h1, h2⟩ := h
    obtain ⟨l', vs', e, k1, k2⟩ := k
    cases e; rw [h1] at k1; cases k1
    exact All2.fun (R := Rd H t) (fun a b c => Rd.fun (t := t)) h2 k2
  | .T t, v, d, d', h, k => by
    simp only [Rd] at h k
    obtain ⟨l, vs, rfl, h1, h2⟩ := h
    obtain ⟨l', vs', e, k1, k2⟩ := k
    cases e; rw [h1] at k1; cases k1
    exact All2.fun (R := Rd H t) (fun a b c => Rd.fun (t := t)) h2 k2
  | .nil, v, d, d', h, k => by simp only [Rd] at h
  | .cons a r, v, d, d', h, k => by simp only [Rd] at h
  | .tupOf r, v, d, d', h, k => by
    simp only [Rd] at h k
    obtain ⟨l, vs, rfl, h1, h2⟩ := h
    obtain ⟨l', vs', e, k1, k2⟩ := k
    cases e; rw [h1] at k1; cases k1
    exact RdR.fun (t := r) h2 k2
  | .lstOf r, v, d, d', h, k => by
    simp only [Rd] at h k
    obtain ⟨l, vs, rfl, h1, h2⟩ := h
    obtain ⟨l', vs', e, k1, k2⟩ := k
    cases e; rw [h1] at k1; cases k1
    exact RdR.fun (t := r) h2 k2
theorem RdR.fun {H : AH} : ∀ {t : Ty} {v : List AV} {d d' : t.den}, RdR H t v d → RdR H t v d' → d = d'
  | .nil, v, d, d', h, k => rfl
  | .cons a r, v, (d1, d2), (e1, e2), h, k => by
    simp only [RdR] at h k
    obtain ⟨x, us, rfl, h1, h2⟩ := h
    obtain ⟨x', us', e, k1, k2⟩ := k
    cases e
    rw [Rd.fun h1 k1, RdR.fun h2 k2]
  | .I, v, d, d', h, k => by simp only [RdR] at h
  | .B, v, d, d', h, k => by simp only [RdR] at h
  | .Y, v, d, d', h, k => by simp only [RdR] at h
  | .L t, v, d, d', h, k => by simp only [RdR] at h
  | .T t, v, d, d', h, k => by simp only [RdR] at h
  | .tupOf r, v, d, d', h, k => by simp only [RdR] at h
  | .lstOf r, v, d, d', h, k => by simp only [RdR] at h
end

theorem EqGives.bytes (a b : Array UInt8) (t u : Tok) (A : Around) (s : Shared) : EqAt A s (.bytes a t) (.bytes b u) (a.toList == b.toList) := fun prog w E Q h => by
  unfold eqBool
  refine wpAny_holding ?_
  refine wpAny_ite_split (fun hab => ?_) (fun _ => ?_)
  · have e := eq_of_beq hab
    injection e with e1 e2
    refine wpAny_bind (wpAny_rule (wpAny_pure ?_))
    rw [e1] at h; simpa using h
  · refine wpAny_bind ?_
    exact richCompare_gives (typeIs_bytes s a t) (typeIs_bytes s b u) FB.slot_bytes_eq FB.entry_bytes_eq (FB.args_bytes_eq_2 _ _) (gives_bytes_eq a b t u) (fun x => nomatch x) (wpAny_truthy_bool h)

theorem all_range_succ (n : Nat) (e : Nat → Bool) : (List.range (n + 1)).all e = (e 0 && (List.range n).all fun i => e (i + 1)) := by
  rw [List.range_succ_eq_map]; simp [List.all_map, Function.comp_def]
theorem allB_range {α β : Type} (a0 : α) (b0 : β) (f : α → β → Bool) : ∀ (l : List α) (r : List β), ((List.range (min l.length r.length)).all (fun j => f (l.getD j a0) (r.getD j b0)) && l.length == r.length) = allB f l r
  | [], [] => by simp [allB]
  | [], _ :: _ => by simp [allB]
  | _ :: _, [] => by simp [allB]
  | a :: l, b :: r => by
    have ih := allB_range a0 b0 f l r
    rw [allB, ← ih]
    simp only [List.length_cons, Nat.add_min_add_right, all_range_succ, List.getD_cons_zero, List.getD_cons_succ, Bool.and_assoc]
    congr 1
    congr 1
    simp

theorem VRs.at {vs : List AV} {xs : Array Value} (h : VRs vs xs.toList) {j : Nat} (h1 : j < xs.size) : ∃ h2 : j < vs.length, VR vs[j] xs[j] := by
  have e : vs.length = xs.size := by simpa using h.1
  have h2 : j < vs.length := by (first | lia | omega)
  exact ⟨h2, h.2 j _ _ (List.getElem?_eq_getElem h2) (by simp [h1])⟩

noncomputable def den0 : (t : Ty) → t.den
  | .I => (0 : Int)
  | .B => false
  | .Y => (#[] : Array UInt8)
  | .L t => ([] : List t.den)
  | .T t => ([] : List t.den)
  | .nil => ()
  | .cons a r => (den0 a, den0 r)
  | .tupOf r => den0 r
  | .lstOf r => den0 r

theorem row_beq {H : AH} {A : Around} {s : Shared} {t : Ty} (hit : ∀ {x y : Value} {a b : AV} {da db : t.den}, VR a x → VR b y → Rd H t a da → Rd H t b db → EqAt A s x y (t.beq da db))
    {vs us : List AV} {xs ys : Array Value} {ds es : List t.den} (rx : VRs vs xs.toList) (ry : VRs us ys.toList) (hx : All2 (Rd H t) vs ds) (hy : All2 (Rd H t) us es) :
    ∀ j (h1 : j < xs.size) (h2 : j < ys.size), EqAt A s xs[j] ys[j] (t.beq (ds.getD j (den0 t)) (es.getD j (den0 t))) := by
  intro j h1 h2
  obtain ⟨g1, r1⟩ := rx.at h1
  obtain ⟨g2, r2⟩ := ry.at h2
  have k1 : j < ds.length := hx.length ▸ g1
  have k2 : j < es.length := hy.length ▸ g2
  rw [List.getD_eq_getElem?_getD, List.getD_eq_getElem?_getD, List.getElem?_eq_getElem k1, List.getElem?_eq_getElem k2]
  simp only [Option.getD_some]
  exact hit r1 r2 (hx.get j g1 k1) (hy.get j g2 k2)

theorem allB_lens {α β : Type} (f : α → β → Bool) : ∀ {l : List α} {r : List β}, l.length ≠ r.length → allB f l r = false
  | [], [], h => absurd rfl h
  | [], _ :: _, _ => rfl
  | _ :: _, [], _ => rfl
  | a :: l, b :: r, h => by rw [allB, allB_lens f (by simpa using h), Bool.and_false]
theorem allB_same {α β : Type} (f : α → β → Bool) (a0 : α) (b0 : β) (l : List α) (r : List β) (h : l.length = r.length) : ((List.range l.length).all fun j => f (l.getD j a0) (r.getD j b0)) = allB f l r := by
  rw [← allB_range a0 b0 f l r, ← h, Nat.min_self]; simp

theorem RdR.length {H : AH} : ∀ {t : Ty} {vs us : List AV} {d e : t.den}, RdR H t vs d → RdR H t us e → vs.length = us.length
  | .nil, vs, us, d, e, h, k => by simp only [RdR] at h k; rw [h, k]
  | .cons a r, vs, us, d, e, h, k => by
    simp only [RdR] at h k
    obtain ⟨x, vs', rfl, _, h2⟩ := h
    obtain ⟨x', us', rfl, _, k2⟩ := k
    simp [RdR.length (t := r) h2 k2]
  | .I, _, _, _, _, h, _ => by simp only [RdR] at h
  | .B, _, _, _, _, h, _ => by simp only [RdR] at h
  | .Y, _, _, _, _, h, _ => by simp only [RdR] at h
  | .L t, _, _, _, _, h, _ => by simp only [RdR] at h
  | .T t, _, _, _, _, h, _ => by simp only [RdR] at h
  | .tupOf r, _, _, _, _, h, _ => by simp only [RdR] at h
  | .lstOf r, _, _, _, _, h, _ => by simp only [RdR] at h

/-- place by place, a row of unlike kinds -/
noncomputable def rowE : (t : Ty) → t.den → t.den → Nat → Bool
  | .cons a r, x, y, 0 => a.beq x.1 y.1
  | .cons a r, x, y, j + 1 => rowE r x.2 y.2 j
  | _, _, _, _ => true
theorem rowE_all {H : AH} : ∀ {t : Ty} {vs : List AV} {d e : t.den}, RdR H t vs d → (List.range vs.length).all (rowE t d e) = t.beq d e
  | .nil, vs, d, e, h => by simp only [RdR] at h; subst h; rfl
  | .cons a r, vs, d, e, h => by
    simp only [RdR] at h
    obtain ⟨x, vs', rfl, _, h2⟩ := h
    rw [List.length_cons, all_range_succ, Ty.beq, ← rowE_all (t := r) (e := e.2) h2]
    rfl
  | .I, _, _, _, h => by simp only [RdR] at h
  | .B, _, _, _, h => by simp only [RdR] at h
  | .Y, _, _, _, h => by simp only [RdR] at h
  | .L t, _, _, _, h => by simp only [RdR] at h
  | .T t, _, _, _, h => by simp only [RdR] at h
  | .tupOf r, _, _, _, h => by simp only [RdR] at h
  | .lstOf r, _, _, _, h => by simp only [RdR] at h

structure HeapIs (H : AH) (s : Shared) : Prop where
  at_ : ∀ a o, H a = some o → ORep s.heap a o
theorem HeapIs.list {H : AH} {s : Shared} (X : HeapIs H s) {l : Addr} {vs : List AV} (h : H l = some (.list vs)) : ∃ xs : Array Value, s.heap.IsList l xs ∧ VRs vs xs.toList :=
  let ⟨xs, n, h1, h2⟩ := X.at_ _ _ h; ⟨xs, ⟨_, h1, rfl, _, rfl⟩, h2⟩
theorem HeapIs.tup {H : AH} {s : Shared} (X : HeapIs H s) {l : Addr} {vs : List AV} (h : H l = some (.tup vs)) : ∃ xs : Array Value, s.heap.IsTuple l xs ∧ VRs vs xs.toList :=
  let ⟨xs, n, h1, h2⟩ := X.at_ _ _ h; ⟨xs, ⟨_, h1, rfl, _, rfl⟩, h2⟩

mutual
theorem Rd.eqAt {H : AH} {s : Shared} (X : HeapIs H s) : ∀ {t : Ty} {A : Around} {x y : Value} {a b : AV} {da db : t.den}, A.units + t.dep < cLine → VR a x → VR b y → Rd H t a da → Rd H t b db → EqAt A s x y (t.beq da db)
  | .I, A, x, y, a, b, da, db, hu, rx, ry, ha, hb => by
    simp only [Rd] at ha hb; subst ha hb; cases rx; cases ry
    exact EqAt.int_int _ _ _ _
  | .B, A, x, y, a, b, da, db, hu, rx, ry, ha, hb => by
    simp only [Rd] at ha hb; subst ha hb; cases rx; cases ry
    exact EqAt.bool_bool _ _
  | .Y, A, x, y, a, b, da, db, hu, rx, ry, ha, hb => by
    simp only [Rd] at ha hb; subst ha hb; cases rx; cases ry
    exact EqGives.bytes _ _ _ _ _ _
  | .L t, A, x, y, a, b, da, db, hu, rx, ry, ha, hb => by
    by_cases hab : a = b
    · subst hab
      have e := Rd.fun ha hb; subst e
      have : Ty.beq (.L t) da da = true := (Ty.beq_eq _ _ _).mpr rfl
      rw [this]
      simp only [Rd] at ha
      obtain ⟨l, vs, rfl, h1, h2⟩ := ha
      cases rx; cases ry; exact EqAt.same _
    · simp only [Rd] at ha hb
      obtain ⟨l, vs, rfl, h1, h2⟩ := ha
      obtain ⟨m, us, rfl, k1, k2⟩ := hb
      cases rx; cases ry
      refine EqAt.of_refs (fun e => hab (by rw [e])) ?_
      obtain ⟨xs, hx, rx⟩ := X.list h1
      obtain ⟨ys, hy, ry⟩ := X.list k1
      have ex : xs.size = da.length := by rw [← h2.length]; simpa using rx.1.symm
      have ey : ys.size = db.length := by rw [← k2.length]; simpa using ry.1.symm
      simp only [Ty.dep] at hu
      by_cases hsz : xs.size = ys.size
      · have := RcAt.lists hx hy hsz (by (first | lia | omega)) (row_beq (A := A.in1) (t := t) (fun r1 r2 q1 q2 => Rd.eqAt X (t := t) (by simp; (first | lia | omega)) r1 r2 q1 q2) rx ry h2 k2)
        rw [ex, allB_same t.beq _ _ da db (by (first | lia | omega))] at this
        exact this
      · have e : Ty.beq (.L t) da db = false := allB_lens _ (by (first | lia | omega))
        rw [e]
        exact RcAt.lists_lengths hx hy (by simpa using hsz) (by (first | lia | omega))
  | .T t, A, x, y, a, b, da, db, hu, rx, ry, ha, hb => by
    by_cases hab : a = b
    · subst hab
      have e := Rd.fun ha hb; subst e
      have : Ty.beq (.T t) da da = true := (Ty.beq_eq _ _ _).mpr rfl
      rw [this]
      simp only [Rd] at ha
      obtain ⟨l, vs, rfl, h1, h2⟩ := ha
      cases rx; cases ry; exact EqAt.same _
    · simp only [Rd] at ha hb
      obtain ⟨l, vs, rfl, h1, h2⟩ := ha
      obtain ⟨m, us, rfl, k1, k2⟩ := hb
      cases rx; cases ry
      refine EqAt.of_refs (fun e => hab (by rw [e])) ?_
      obtain ⟨xs, hx, rx⟩ := X.tup h1
      obtain ⟨ys, hy, ry⟩ := X.tup k1
      have ex : xs.size = da.length := by rw [← h2.length]; simpa using rx.1.symm
      have ey : ys.size = db.length := by rw [← k2.length]; simpa using ry.1.symm
      simp only [Ty.dep] at hu
      have := RcAt.tuples hx hy (by (first | lia | omega)) (row_beq (A := A.in1) (t := t) (fun r1 r2 q1 q2 => Rd.eqAt X (t := t) (by simp; (first | lia | omega)) r1 r2 q1 q2) rx ry h2 k2)
      rw [ex, ey] at this
      have e := allB_range (den0 t) (den0 t) t.beq da db
      rw [show Ty.beq (.T t) da db = allB t.beq da db from rfl, ← e]
      exact this
  | .nil, A, x, y, a, b, da, db, hu, rx, ry, ha, hb => by simp only [Rd] at ha
  | .cons c r, A, x, y, a, b, da, db, hu, rx, ry, ha, hb => by simp only [Rd] at ha
  | .tupOf r, A, x, y, a, b, da, db, hu, rx, ry, ha, hb => by
    by_cases hab : a = b
    · subst hab
      have e := Rd.fun ha hb; subst e
      have : Ty.beq (.tupOf r) da da = true := (Ty.beq_eq _ _ _).mpr rfl
      rw [this]
      simp only [Rd] at ha
      obtain ⟨l, vs, rfl, h1, h2⟩ := ha
      cases rx; cases ry; exact EqAt.same _
    · simp only [Rd] at ha hb
      obtain ⟨l, vs, rfl, h1, h2⟩ := ha
      obtain ⟨m, us, rfl, k1, k2⟩ := hb
      cases rx; cases ry
      refine EqAt.of_refs (fun e => hab (by rw [e])) ?_
      obtain ⟨xs, hx, rx⟩ := X.tup h1
      obtain ⟨ys, hy, ry⟩ := X.tup k1
      have hl := RdR.length h2 k2
      have ex : xs.size = vs.length := by simpa using rx.1.symm
      have ey : ys.size = us.length := by simpa using ry.1.symm
      simp only [Ty.dep] at hu
      have := RcAt.tuples (e := rowE r da db) hx hy (by (first | lia | omega)) (RdR.eqAt X (t := r) (A := A.in1) (by simp; (first | lia | omega)) rx ry h2 k2)
      rw [ex, ey, ← hl, Nat.min_self, rowE_all h2, beq_self_eq_true, Bool.and_true] at this
      exact this
  | .lstOf r, A, x, y, a, b, da, db, hu, rx, ry, ha, hb => by
    by_cases hab : a = b
    · subst hab
      have e := Rd.fun ha hb; subst e
      have : Ty.beq (.lstOf r) da da = true := (Ty.beq_eq _ _ _).mpr rfl
      rw [this]
      simp only [Rd] at ha
      obtain ⟨l, vs, rfl, h1, h2⟩ := ha
      cases rx; cases ry; exact EqAt.same _
    · simp only [Rd] at ha hb
      obtain ⟨l, vs, rfl, h1, h2⟩ := ha
      obtain ⟨m, us, rfl, k1, k2⟩ := hb
      cases rx; cases ry
      refine EqAt.of_refs (fun e => hab (by rw [e])) ?_
      obtain ⟨xs, hx, rx⟩ := X.list h1
      obtain ⟨ys, hy, ry⟩ := X.list k1
      have hl := RdR.length h2 k2
      have ex : xs.size = vs.length := by simpa using rx.1.symm
      have ey : ys.size = us.length := by simpa using ry.1.symm
      simp only [Ty.dep] at hu
      have := RcAt.lists (e := rowE r da db) hx hy (by (first | lia | omega)) (by (first | lia | omega)) (RdR.eqAt X (t := r) (A := A.in1) (by simp; (first | lia | omega)) rx ry h2 k2)
      rw [ex, rowE_all h2] at this
      exact this
theorem RdR.eqAt {H : AH} {s : Shared} (X : HeapIs H s) : ∀ {t : Ty} {A : Around} {xs ys : Array Value} {vs us : List AV} {da db : t.den}, A.units + t.dep < cLine → VRs vs xs.toList → VRs us ys.toList → RdR H t vs da → RdR H t us db →
    ∀ j (h1 : j < xs.size) (h2 : j < ys.size), EqAt A s xs[j] ys[j] (rowE t da db j)
  | .nil, A, xs, ys, vs, us, da, db, hu, rx, ry, ha, hb, j, h1, h2 => by
    simp only [RdR] at ha; subst ha
    have := rx.1; simp at this; (first | lia | omega)
  | .cons c r, A, xs, ys, vs, us, da, db, hu, rx, ry, ha, hb, j, h1, h2 => by
    simp only [RdR] at ha hb
    obtain ⟨v, vs', rfl, p1, p2⟩ := ha
    obtain ⟨u, us', rfl, q1, q2⟩ := hb
    obtain ⟨g1, r1⟩ := rx.at h1
    obtain ⟨g2, r2⟩ := ry.at h2
    simp only [Ty.dep] at hu
    cases j with
    | zero => exact Rd.eqAt X (t := c) (by (first | lia | omega)) r1 r2 p1 q1
    | succ j =>
      obtain ⟨x, xs', hxs, _, rx'⟩ := rx.cons_inv
      obtain ⟨y, ys', hys, _, ry'⟩ := ry.cons_inv
      have l1 : xs.size = xs'.length + 1 := by simpa using congrArg List.length hxs
      have l2 : ys.size = ys'.length + 1 := by simpa using congrArg List.length hys
      have e1 : xs[j + 1] = xs'.toArray[j]'(by simp; (first | lia | omega)) := by
        have : xs.toList[j + 1]'(by simpa using h1) = (x :: xs')[j + 1]'(by simp; (first | lia | omega)) := by simp only [hxs]
        simpa using this
      have e2 : ys[j + 1] = ys'.toArray[j]'(by simp; (first | lia | omega)) := by
        have : ys.toList[j + 1]'(by simpa using h2) = (y :: ys')[j + 1]'(by simp; (first | lia | omega)) := by simp only [hys]
        simpa using this
      rw [e1, e2]
      exact RdR.eqAt X (t := r) (xs := xs'.toArray) (ys := ys'.toArray) (by (first | lia | omega)) rx' ry' p2 q2 j _ _
  | .I, A, xs, ys, vs, us, da, db, hu, rx, ry, ha, hb, j, h1, h2 => by simp only [RdR] at ha
  | .B, A, xs, ys, vs, us, da, db, hu, rx, ry, ha, hb, j, h1, h2 => by simp only [RdR] at ha
  | .Y, A, xs, ys, vs, us, da, db, hu, rx, ry, ha, hb, j, h1, h2 => by simp only [RdR] at ha
  | .L t, A, xs, ys, vs, us, da, db, hu, rx, ry, ha, hb, j, h1, h2 => by simp only [RdR] at ha
  | .T t, A, xs, ys, vs, us, da, db, hu, rx, ry, ha, hb, j, h1, h2 => by simp only [RdR] at ha
  | .tupOf r, A, xs, ys, vs, us, da, db, hu, rx, ry, ha, hb, j, h1, h2 => by simp only [RdR] at ha
  | .lstOf r, A, xs, ys, vs, us, da, db, hu, rx, ry, ha, hb, j, h1, h2 => by simp only [RdR] at ha
end


section
variable {G : Gx} {n : Nat} {H : AH} {Q : AV → AH → Prop} {sc : Scope} {ρ : Loc}

theorem heapIs {P : Hid} {sc : Scope} {D : Dyn} {ρ : Loc} {s : Shared} (S : StF G P sc D ρ H s) : HeapIs H s := ⟨S.h.heap⟩

theorem CO.eqL {t : Ty} {a b : AV} {da db : List t.den} (ht : t.dep < 20) (ha : Rd H (.L t) a da) (hb : Rd H (.L t) b db) (h : Q (.bool ((Ty.L t).beq da db)) H) : CO G n .Eq a b Q H := by
  intro x y rx ry A P sc D ρ s r S
  simp only [Rd] at ha hb
  obtain ⟨l, vs, rfl, h1, h2⟩ := ha
  obtain ⟨m, us, rfl, k1, k2⟩ := hb
  cases rx; cases ry
  have X := heapIs S
  obtain ⟨xs, hx, rx⟩ := X.list h1
  obtain ⟨ys, hy, ry⟩ := X.list k1
  have ex : xs.size = da.length := by rw [← h2.length]; simpa using rx.1.symm
  have ey : ys.size = db.length := by rw [← k2.length]; simpa using ry.1.symm
  have hu := r.units
  have fin : EvP G P sc D ρ Q (.bool ((Ty.L t).beq da db)) s := ⟨_, H, .bool _, S, h⟩
  by_cases hsz : xs.size = ys.size
  · have := RcAt.lists hx hy hsz (by (first | lia | omega)) (row_beq (A := A.in1) (t := t) (fun r1 r2 q1 q2 => Rd.eqAt X (t := t) (by simp; (first | lia | omega)) r1 r2 q1 q2) rx ry h2 k2)
    rw [ex, allB_same t.beq _ _ da db (by (first | lia | omega))] at this
    exact this G.prog G.w FF _ fin
  · have e : Ty.beq (.L t) da db = false := allB_lens _ (by (first | lia | omega))
    have := RcAt.lists_lengths hx hy (by simpa using hsz) (A := A) (by (first | lia | omega))
    rw [e] at fin
    exact this G.prog G.w FF _ fin
theorem CO.neL {t : Ty} {a b : AV} {da db : List t.den} (ht : t.dep < 20) (ha : Rd H (.L t) a da) (hb : Rd H (.L t) b db) (h : Q (.bool (!(Ty.L t).beq da db)) H) : CO G n .NotEq a b Q H := by
  intro x y rx ry A P sc D ρ s r S
  simp only [Rd] at ha hb
  obtain ⟨l, vs, rfl, h1, h2⟩ := ha
  obtain ⟨m, us, rfl, k1, k2⟩ := hb
  cases rx; cases ry
  have X := heapIs S
  obtain ⟨xs, hx, rx⟩ := X.list h1
  obtain ⟨ys, hy, ry⟩ := X.list k1
  have ex : xs.size = da.length := by rw [← h2.length]; simpa using rx.1.symm
  have ey : ys.size = db.length := by rw [← k2.length]; simpa using ry.1.symm
  have hu := r.units
  have fin : EvP G P sc D ρ Q (.bool (!(Ty.L t).beq da db)) s := ⟨_, H, .bool _, S, h⟩
  by_cases hsz : xs.size = ys.size
  · have := RcNeAt.lists hx hy hsz (by (first | lia | omega)) (row_beq (A := A.in1) (t := t) (fun r1 r2 q1 q2 => Rd.eqAt X (t := t) (by simp; (first | lia | omega)) r1 r2 q1 q2) rx ry h2 k2)
    rw [ex, allB_same t.beq _ _ da db (by (first | lia | omega))] at this
    exact this G.prog G.w FF _ fin
  · have e : Ty.beq (.L t) da db = false := allB_lens _ (by (first | lia | omega))
    have := RcNeAt.lists_lengths hx hy (by simpa using hsz) (A := A) (by (first | lia | omega))
    rw [e] at fin
    exact this G.prog G.w FF _ fin
theorem CO.neR {t : Ty} {a b : AV} {da db : t.den} (ht : t.dep < 20) (ha : Rd H (.lstOf t) a da) (hb : Rd H (.lstOf t) b db) (h : Q (.bool (!t.beq da db)) H) : CO G n .NotEq a b Q H := by
  intro x y rx ry A P sc D ρ s r S
  simp only [Rd] at ha hb
  obtain ⟨l, vs, rfl, h1, h2⟩ := ha
  obtain ⟨m, us, rfl, k1, k2⟩ := hb
  cases rx; cases ry
  have X := heapIs S
  obtain ⟨xs, hx, rx⟩ := X.list h1
  obtain ⟨ys, hy, ry⟩ := X.list k1
  have hl := RdR.length h2 k2
  have ex : xs.size = vs.length := by simpa using rx.1.symm
  have ey : ys.size = us.length := by simpa using ry.1.symm
  have hu := r.units
  have fin : EvP G P sc D ρ Q (.bool (!t.beq da db)) s := ⟨_, H, .bool _, S, h⟩
  have := RcNeAt.lists (e := rowE t da db) hx hy (by (first | lia | omega)) (by (first | lia | omega)) (RdR.eqAt X (t := t) (A := A.in1) (by simp; (first | lia | omega)) rx ry h2 k2)
  rw [ex, rowE_all h2] at this
  exact this G.prog G.w FF _ fin

/-- an int among the ints of a tuple -/
noncomputable def TupInts (h : Heap) (a : Addr) (is : List Int) : Prop := ∃ xs : Array Value, h.IsTuple a xs ∧ VRs (is.map .int) xs.toList
theorem in_ints {A : Around} {s : Shared} {a : Addr} {is : List Int} {i : Int} {t : Tok} {Q : Value → Shared → Prop} (h : TupInts s.heap a is) (hq : Q (.bool (is.contains i)) s) : wpAny (model G.prog G.w) A (compareOp .In (.int i t) (.ref a)) Q FF s := by
  obtain ⟨xs, hx, rx⟩ := h
  let e : Value → Bool := fun v => match v with | .int j _ => j == i | _ => false
  have he : ∀ y, y ∈ xs → EqAt A.in1 s y (.int i t) (e y) := by
    intro y hy
    obtain ⟨j, hj, rfl⟩ := Array.mem_iff_getElem.mp hy
    obtain ⟨h2, r⟩ := rx.at hj
    rw [List.getElem_map] at r
    generalize xs[j] = y at r
    cases r
    exact EqAt.int_int _ _ _ _
  refine in_tupleAt e hx he ?_
  have : xs.any e = is.contains i := by
    rw [← Array.any_toList]
    have go : ∀ (is : List Int) (l : List Value), VRs (is.map .int) l → l.any e = is.contains i := by
      intro is
      induction is with
      | nil => intro l hl; rw [VRs.nil_inv hl]; rfl
      | cons j r ih =>
        intro l hl
        obtain ⟨x, q, rfl, h1, h2⟩ := hl.cons_inv
        cases h1
        rw [List.any_cons, ih q h2, List.contains_cons]
        have : e (.int j ‹_›) = (i == j) := by show (j == i) = (i == j); exact Bool.beq_comm
        rw [this]
    exact go is _ rx
  rw [this]; exact hq
theorem CO.inTup {l : Addr} {is : List Int} {i : Int} (hl : H l = some (.tup (is.map .int))) (h : Q (.bool (is.contains i)) H) : CO G n .In (.int i) (.ref l) Q H := by
  rintro _ _ ⟨⟩ ⟨⟩ A P sc D ρ s r S
  obtain ⟨xs, hx, rx⟩ := (heapIs S).tup hl
  exact in_ints ⟨xs, hx, rx⟩ ⟨_, H, .bool _, S, h⟩
/-- ... of a tuple of the top -/
theorem CO.inTop {l : Addr} {is : List Int} {i : Int} (hl : TupInts G.base l is) (h : Q (.bool (is.contains i)) H) : CO G n .In (.int i) (.ref l) Q H := by
  rintro _ _ ⟨⟩ ⟨⟩ A P sc D ρ s r S
  obtain ⟨xs, ⟨o, ho, hx⟩, rx⟩ := hl
  exact in_ints ⟨xs, ⟨o, S.h.baseIn ho, hx⟩, rx⟩ ⟨_, H, .bool _, S, h⟩

/- slices -/
noncomputable def partOf : Option Expr → Prop := fun _ => True
noncomputable def EVo (G : Gx) (n : Nat) (sc : Scope) (e : Option Expr) (Q : Option Int → AH → Prop) (ρ : Loc) (H : AH) : Prop := match e with
  | none => Q none H
  | some e => EV G n sc e (fun v H₁ => ∃ i, v = .int i ∧ Q (some i) H₁) ρ H
noncomputable def pickL {α : Type} (vs : List α) (lo hi : Option Int) : List α := ((sliceRange (sliceBounds lo hi none vs.length).1 (sliceBounds lo hi none vs.length).2.1 1).filterMap (vs[·]?))
theorem EVo.use {e : Option Expr} {Q : Option Int → AH → Prop} (h : EVo G n sc e Q ρ H) {A : Around} {P : Hid} {D : Dyn} {s : Shared} (r : Room A n) (S : StF G P sc D ρ H s) :
    wpAny (model G.prog G.w) A (evalPart e (D.env sc)) (fun v s' => ∃ i H', IsPart v i ∧ StF G P sc D ρ H' s' ∧ Q i H') FF s := by
  cases e with
  | none => exact wpAny_pure ⟨none, H, .none, S, h⟩
  | some e => exact wp_mono (h A P D s r S) fun v s' ⟨av, H', hv, S', i, e, q⟩ => by subst e; cases hv; exact ⟨some i, H', .int _ _, S', q⟩
theorem sliceRange_lt (vs : List AV) (lo hi : Option Int) : ∀ j ∈ sliceRange (sliceBounds lo hi none vs.length).1 (sliceBounds lo hi none vs.length).2.1 1, True := fun _ _ => trivial
theorem VRs.pick {vs : List AV} {xs : List Value} (h : VRs vs xs) (js : List Nat) : VRs (js.filterMap (vs[·]?)) (js.filterMap (xs[·]?)) := by
  induction js with
  | nil => exact VRs.nil
  | cons j r ih =>
    rw [List.filterMap_cons, List.filterMap_cons]
    by_cases hv : j < vs.length
    · have hx : j < xs.length := by rw [← h.1]; exact hv
      rw [List.getElem?_eq_getElem hv, List.getElem?_eq_getElem hx]
      exact VRs.cons (h.2 j _ _ (List.getElem?_eq_getElem hv) (List.getElem?_eq_getElem hx)) ih
    · have hx : ¬ j < xs.length := by rw [← h.1]; exact hv
      rw [List.getElem?_eq_none (by (first | lia | omega)), List.getElem?_eq_none (by (first | lia | omega))]
      exact ih
theorem EV.slice {value : Expr} {lower upper : Option Expr} {p pos : Pos}
    (h : EV G n sc value (fun a H₁ => EVo G n sc lower (fun lo H₂ => EVo G n sc upper (fun hi H₃ => ∃ l vs, a = .ref l ∧ H₃ l = some (.list vs) ∧ vs.length ≤ sizeLine ∧ ∀ r, H₃ r = none → Q (.ref r) (H₃.set r (.list (pickL vs lo hi)))) ρ H₂) ρ H₁) ρ H) :
    EV G n sc (.Subscript value (.Slice lower upper none p) pos) Q ρ H := by
  intro A P D s ro S
  rw [eval_Subscript]
  refine wpAny_bind (wp_mono (h A P D s ro S) fun x s₁ ⟨a, H₁, ha, S₁, h₁⟩ => wpAny_bind (wpAny_holding (wpAny_Slice (wp_mono (h₁.use ro S₁) fun vl s₂ ⟨lo, H₂, pl, S₂, h₂⟩ =>
    wp_mono (h₂.use ro S₂) fun vu s₃ ⟨hi, H₃, pu, S₃, h₃⟩ => wpAny_pure ?_))))
  obtain ⟨l, vs, rfl, hl, hz, hq⟩ := h₃
  cases ha
  obtain ⟨xs, hx, rx⟩ := (heapIs S₃).list hl
  have e : vs.length = xs.size := by simpa using rx.1
  refine wpAny_bind (wpAny_standAt ?_)
  refine tail_gi (T := "list") (hx.push _).typeIs slot_list_getitem.lookup (.inr rfl) (wpAny_getItem_list_slice (hx.push _) (Heap.IsSliceOf.new ..) pl pu .none (by simp) ?_ (by (first | lia | omega)))
  refine ⟨.ref _, _, .ref _, (S₃.ext fun b o y => Heap.get?_push_of_some _ y).alloc (o := .list (pickL vs lo hi)) (Nat.le_refl _) (fun b o y => Heap.get?_push_of_some _ y) ⟨_, 0, Heap.get?_push_size _ rfl, ?_⟩, hq _ ?_⟩
  · have := rx.pick (sliceRange (sliceBounds lo hi none xs.size).1 (sliceBounds lo hi none xs.size).2.1 1)
    unfold pickL
    rw [e]
    simpa [slicePick, sliceBounds] using this
  · exact (S₃.h.fresh (Nat.le_of_lt (by rw [Heap.size_push]; exact Nat.lt_succ_self _))).1
end


inductive AF where
  | next | brk | cont
  | ret (v : AV)
inductive FR : AF → Flow → Prop where
  | next : FR .next .next
  | brk : FR .brk .brk
  | cont : FR .cont .cont
  | ret {v : AV} {x : Value} (h : VR v x) : FR (.ret v) (.ret x)

section
variable (G : Gx)
inductive StP (P : Hid) (sc : Scope) (D : Dyn) (Q : AF → Loc → AH → Prop) (f : Flow) (s : Shared) : Prop
  | mk (af : AF) (ρ' : Loc) (H' : AH) : FR af f → StF G P sc D ρ' H' s → Q af ρ' H' → StP P sc D Q f s
inductive AsP (P : Hid) (sc : Scope) (D : Dyn) (Q : Loc → AH → Prop) (u : Unit) (s : Shared) : Prop
  | mk (ρ' : Loc) (H' : AH) : StF G P sc D ρ' H' s → Q ρ' H' → AsP P sc D Q u s
/-- a statement -/
noncomputable def SX (n : Nat) (sc : Scope) (st : Stmt) (Q : AF → Loc → AH → Prop) (ρ : Loc) (H : AH) : Prop :=
  ∀ A P D s, Room A n → D.func.isSome = true → StF G P sc D ρ H s → wpAny (model G.prog G.w) A (exec st (D.env sc)) (StP G P sc D Q) FF s
noncomputable def SXs (n : Nat) (sc : Scope) (sts : List Stmt) (Q : AF → Loc → AH → Prop) (ρ : Loc) (H : AH) : Prop :=
  ∀ A P D s, Room A n → D.func.isSome = true → StF G P sc D ρ H s → wpAny (model G.prog G.w) A (execs sts (D.env sc)) (StP G P sc D Q) FF s
/-- a store of a value into a target; fs: may cells be written -/
noncomputable def AS (n : Nat) (fs : Bool) (sc : Scope) (t : Expr) (v : AV) (Q : Loc → AH → Prop) (ρ : Loc) (H : AH) : Prop :=
  ∀ A P D s x, Room A n → (fs = true → D.func.isSome = true) → StF G P sc D ρ H s → VR v x → wpAny (model G.prog G.w) A (assign t (D.env sc) x) (AsP G P sc D Q) FF s
noncomputable def ASs (n : Nat) (fs : Bool) (sc : Scope) (ts : List Expr) (vs : List AV) (Q : Loc → AH → Prop) (ρ : Loc) (H : AH) : Prop :=
  ∀ A P D s xs, Room A n → (fs = true → D.func.isSome = true) → StF G P sc D ρ H s → VRs vs xs → wpAny (model G.prog G.w) A (assignInOrder ((assignEach ts (D.env sc)).map (·.2)) xs) (AsP G P sc D Q) FF s
end

section
variable {G : Gx} {n : Nat} {sc : Scope} {ρ : Loc} {H : AH} {Q : AF → Loc → AH → Prop}

theorem SX.mono {st : Stmt} {Q' : AF → Loc → AH → Prop} (h : SX G n sc st Q ρ H) (k : ∀ f ρ' H', Q f ρ' H' → Q' f ρ' H') : SX G n sc st Q' ρ H :=
  fun A P D s r f S => wp_mono (h A P D s r f S) fun _ _ ⟨af, ρ', H', a, b, c⟩ => ⟨af, ρ', H', a, b, k _ _ _ c⟩
theorem SXs.mono {st : List Stmt} {Q' : AF → Loc → AH → Prop} (h : SXs G n sc st Q ρ H) (k : ∀ f ρ' H', Q f ρ' H' → Q' f ρ' H') : SXs G n sc st Q' ρ H :=
  fun A P D s r f S => wp_mono (h A P D s r f S) fun _ _ ⟨af, ρ', H', a, b, c⟩ => ⟨af, ρ', H', a, b, k _ _ _ c⟩
/-- what a statement leaves to the rest of its block -/
abbrev thenP (G : Gx) (n : Nat) (sc : Scope) (r : List Stmt) (Q : AF → Loc → AH → Prop) : AF → Loc → AH → Prop := fun f ρ' H' => match f with | .next => SXs G n sc r Q ρ' H' | f => Q f ρ' H'
theorem SXs.nil (h : Q .next ρ H) : SXs G n sc [] Q ρ H := fun A P D s r f S => wpAny_execs_nil ⟨.next, ρ, H, .next, S, h⟩
theorem SXs.cons {st : Stmt} {r : List Stmt} (h : SX G n sc st (thenP G n sc r Q) ρ H) : SXs G n sc (st :: r) Q ρ H := by
  intro A P D s ro f S
  refine wpAny_execs_cons (wp_mono (h A P D s ro f S) ?_)
  rintro fl s' ⟨af, ρ', H', hf, S', q⟩
  cases hf with
  | next => exact q A P D s' ro f S'
  | brk => exact ⟨_, _, _, .brk, S', q⟩
  | cont => exact ⟨_, _, _, .cont, S', q⟩
  | ret h => exact ⟨_, _, _, .ret h, S', q⟩
/-- garbage is dropped, names are forgotten -/
theorem SX.drop {st : Stmt} (h : SX G n sc st (fun f ρ' H' => ∃ H'', H''.le H' ∧ Q f ρ' H'') ρ H) : SX G n sc st Q ρ H :=
  fun A P D s r f S => wp_mono (h A P D s r f S) fun _ _ ⟨af, ρ', H', a, b, ⟨H'', l, c⟩⟩ => ⟨af, ρ', H'', a, b.sub l, c⟩
theorem SXs.drop {st : List Stmt} (h : SXs G n sc st (fun f ρ' H' => ∃ H'', H''.le H' ∧ Q f ρ' H'') ρ H) : SXs G n sc st Q ρ H :=
  fun A P D s r f S => wp_mono (h A P D s r f S) fun _ _ ⟨af, ρ', H', a, b, ⟨H'', l, c⟩⟩ => ⟨af, ρ', H'', a, b.sub l, c⟩
theorem SXs.sub {st : List Stmt} {H' : AH} (k : H.le H') (h : SXs G n sc st Q ρ H) : SXs G n sc st Q ρ H' := fun A P D s r f S => h A P D s r f (S.sub k)

/- stores -/
theorem storeL {A : Around} {P : Hid} {D : Dyn} {s : Shared} {x : Str} {v : AV} {w : Value} (hk : sc.kind = .function) (hl : sc.names.lookup x = some .local) (S : StF G P sc D ρ H s) (r : VR v w) {Q : Unit → Shared → Prop}
    (h : ∀ s', StF G P sc D (ρ.set x v) H s' → Q () s') : wpAny (model G.prog G.w) A (storeName (D.env sc) x w) Q FF s := by
  obtain ⟨m, hn, _⟩ := S.f.ns
  refine wpAny_storeName_local (env := D.env sc) hl hn (fun h' hn' hs => h _ (S.store hl r hn hn' hs _)) ?_
  show (sc.kind == .class || (sc.kind == .module && D.L != mainGlobals)) = false
  rw [hk]; rfl
theorem storeC {A : Around} {P : Hid} {D : Dyn} {s : Shared} {x : Str} {v : AV} {w : Value} (hf : D.func.isSome = true) (hk : sc.kind = .function) (hl : sc.names.lookup x = some .cell) (S : StF G P sc D ρ H s) (r : VR v w) {Q : Unit → Shared → Prop}
    (h : ∀ s', StF G P sc D (ρ.set x v) H s' → Q () s') : wpAny (model G.prog G.w) A (storeName (D.env sc) x w) Q FF s := by
  obtain ⟨c, vo, h1, h2, _⟩ := S.f.cell x hl
  exact wpAny_storeName_cell (env := D.env sc) hk hl h1 h2 fun h' hc hs => h _ (S.storeCell hf hl r h1 hc hs)
/-- local or cell -/
noncomputable def Holds (fs : Bool) (sc : Scope) (x : Str) : Bool := sc.kind == .function && (sc.names.lookup x == some .local || (fs && sc.names.lookup x == some .cell))
theorem storeA {A : Around} {P : Hid} {D : Dyn} {s : Shared} {x : Str} {v : AV} {w : Value} {fs : Bool} (hf : fs = true → D.func.isSome = true) (hl : Holds fs sc x = true) (S : StF G P sc D ρ H s) (r : VR v w) {Q : Unit → Shared → Prop}
    (h : ∀ s', StF G P sc D (ρ.set x v) H s' → Q () s') : wpAny (model G.prog G.w) A (storeName (D.env sc) x w) Q FF s := by
  unfold Holds at hl
  simp only [Bool.and_eq_true, Bool.or_eq_true, beq_iff_eq] at hl
  obtain ⟨hk, hl | ⟨h1, hl⟩⟩ := hl
  · exact storeL hk hl S r h
  · exact storeC (hf h1) hk hl S r h

theorem AS.name {x : Str} {p : Pos} {v : AV} {fs : Bool} {Q : Loc → AH → Prop} (hl : Holds fs sc x = true) (h : Q (ρ.set x v) H) : AS G n fs sc (.Name x p) v Q ρ H :=
  fun A P D s w r f S hv => wpAny_assign_Name (storeA f hl S hv fun s' S' => ⟨_, _, S', h⟩)
theorem AS.item {o i : Expr} {p : Pos} {v : AV} {fs : Bool} {Q : Loc → AH → Prop}  (h : EV G n sc o (fun a H₁ => EV G n sc i (fun b H₂ => SI G n a b v (fun H₃ => Q ρ H₃) H₂) ρ H₁) ρ H) : AS G n fs sc (.Subscript o i p) v Q ρ H := by
  intro A P D s w r f S hv
  rw [arm_assign_Subscript]
  refine wpAny_bind (wpAny_holding (wp_mono (h A P D s r S) fun x s₁ ⟨a, H₁, ha, S₁, h₁⟩ => wpAny_bind (wpAny_holding (wp_mono (h₁ A P D s₁ r S₁) fun y s₂ ⟨b, H₂, hb, S₂, h₂⟩ => ?_))))
  exact wpAny_bind (wpAny_standAt (wpAny_bind (wpAny_holding (wp_mono (h₂ x y w ha hb hv A P sc D ρ s₂ r S₂) fun _ s₃ ⟨H₃, S₃, q⟩ => wpAny_release ⟨_, _, S₃, q⟩))))
theorem ASs.nil {fs : Bool} {Q : Loc → AH → Prop} (h : Q ρ H) : ASs G n fs sc [] [] Q ρ H := fun A P D s xs r f S hv => by
  rw [hv.nil_inv]; exact wpAny_pure ⟨_, _, S, h⟩
theorem ASs.cons {t : Expr} {ts : List Expr} {v : AV} {vs : List AV} {fs : Bool} {Q : Loc → AH → Prop} (he : ∀ env, assignEach (t :: ts) env = (false, assign t env) :: assignEach ts env)
    (h : AS G n fs sc t v (fun ρ' H' => ASs G n fs sc ts vs Q ρ' H') ρ H) : ASs G n fs sc (t :: ts) (v :: vs) Q ρ H := by
  intro A P D s xs r f S hv
  obtain ⟨x, q, rfl, h1, h2⟩ := hv.cons_inv
  rw [he]
  show wpAny _ A (do holding q (assign t (D.env sc) x); assignInOrder ((assignEach ts (D.env sc)).map (·.2)) q) _ _ _
  exact wpAny_bind (wpAny_holding (wp_mono (h A P D s x r f S h1) fun _ s₁ ⟨ρ', H', S', k⟩ => k A P D s₁ q r f S' h2))
theorem AS.tup {ts : List Expr} {k : Nat} {p : Pos} {l : Addr} {vs : List AV} {fs : Bool} {Q : Loc → AH → Prop} (hl : H l = some (.tup vs)) (hn : ∀ env, (assignEach ts env).length = vs.length) (hs : ∀ env, (assignEach ts env).findIdx? (·.1) = none)
    (h : ASs G n fs sc ts vs Q ρ H) : AS G n fs sc (.Tuple ts k p) (.ref l) Q ρ H := by
  intro A P D s w r f S hv
  cases hv
  obtain ⟨xs, hx, rx⟩ := (heapIs S).tup hl
  have e : vs.length = xs.size := by simpa using rx.1
  refine wpAny_assign_Tuple r.handled hx ((hn _).trans e) (hs _) fun h' he => ?_
  have hlt : ∀ b o, s.heap.get? b = some o → b ≠ s.heap.objs.size := fun b o q => Nat.ne_of_lt (Heap.lt_size q)
  exact h A P D _ _ r f (S.ext fun b o q => he b o (hlt b o q) q) rx

theorem SX.assign1 {t value : Expr} {p : Pos} (hs : ∀ env, swapsWithSole [t] value p.line env = pure false) (hw : ∀ D : Dyn, swappedStores [t] value (D.env sc) = pure none) (he : ∀ env, (assignEach [t] env).map (·.2) = [assign t env])
    (h : EV G n sc value (fun v H₁ => AS G n true sc t v (fun ρ' H' => Q .next ρ' H') ρ H₁) ρ H) : SX G n sc (.Assign [t] value p) Q ρ H := by
  intro A P D s r f S
  refine wpAny_Assign_stores (wp_mono (h A P D s r S) fun x s₁ ⟨v, H₁, hv, S₁, h₁⟩ => ?_) (hs _) (hw _)
  rw [he]
  exact wp_mono (h₁ A P D s₁ x r (fun _ => f) S₁ hv) fun _ s₂ ⟨ρ', H', S₂, q⟩ => ⟨.next, ρ', H', .next, S₂, q⟩
theorem swap_tail {A : Around} {P : Hid} {D : Dyn} {s : Shared} {t : Addr} {xa xb : Value} {x y : Str} {a b : AV} (r : Room A n) (f : D.func.isSome = true) (ht : s.heap.IsTuple t #[xa, xb]) (S : StF G P sc D ρ H s) (ha : VR a xa) (hb : VR b xb)
    (hx : Holds true sc x = true) (hy : Holds true sc y = true) (q : Q .next ((ρ.set y b).set x a) H) (stores : List (Value → Sem Unit)) (v : Value) :
    wpAny (model G.prog G.w) A (assignStores (D.env sc) (.ref t) (some [x, y]) stores) (StP G P sc D Q) FF s := by
  have hu := wpAny_unpackItems_tuple (prog := G.prog) (w := G.w) (E := FF) (Q := fun items s' => wpAny (model G.prog G.w) A (do assignInOrder (([x, y] : List Str).reverse.map fun n => bindName (D.env sc) n) items.reverse; pure Flow.next) (StP G P sc D Q) FF s') r.handled ht (fun h' he => by
    have S₂ : StF G P sc D ρ H { s with heap := h' } := S.ext fun b o q => he b o (Nat.ne_of_lt (Heap.lt_size q)) q
    have e1 : assignInOrder (([x, y] : List Str).reverse.map fun n => bindName (D.env sc) n) (#[xa, xb] : Array Value).toList.reverse = (do holding [xa] (bindName (D.env sc) y xb); holding [] (bindName (D.env sc) x xa); pure ()) := rfl
    rw [e1]
    refine wpAny_bind (wpAny_bind (wpAny_holding (wpAny_bindName (storeA (fun _ => f) hy S₂ hb fun s₃ S₃ => ?_))))
    refine wpAny_bind (wpAny_holding (wpAny_bindName (storeA (fun _ => f) hx S₃ ha fun s₄ S₄ => ?_)))
    exact wpAny_pure (wpAny_pure ⟨.next, _, _, .next, S₄, q⟩))
  unfold assignStores
  exact wpAny_bind (wpAny_rule (wpAny_bind hu))
theorem SX.swap {ts : List Expr} {vs : List Expr} {k1 k2 : Nat} {p1 p2 p : Pos} {x y : Str} (hs : ∀ env, swapsWithSole [.Tuple ts k1 p1] (.Tuple vs k2 p2) p.line env = pure false)
    (hw : ∀ D : Dyn, swappedStores [.Tuple ts k1 p1] (.Tuple vs k2 p2) (D.env sc) = pure (some [x, y])) (hx : Holds true sc x = true) (hy : Holds true sc y = true)
    (h : ES G n sc vs (fun us H₁ => ∃ a b, us = [a, b] ∧ Q .next ((ρ.set y b).set x a) H₁) ρ H) : SX G n sc (.Assign [.Tuple ts k1 p1] (.Tuple vs k2 p2) p) Q ρ H := by
  intro A P D s r f S
  rw [exec_Assign_arm]
  refine wpAny_bind (wpAny_standAt ?_)
  rw [hs]
  refine wpAny_bind (wpAny_pure ?_)
  rw [if_neg (by decide)]
  refine wpAny_bind (wpAny_Tuple (wp_mono (h A P D s p2 r S) fun xs s₁ ⟨us, H₁, hv, S₁, a, b, e, q⟩ => ?_))
  subst e
  obtain ⟨xa, r1, rfl, ha, hv1⟩ := hv.cons_inv
  obtain ⟨xb, r2, rfl, hb, hv2⟩ := hv1.cons_inv
  rw [hv2.nil_inv]
  refine ⟨by rw [sizeLine_eq]; exact (by decide : 2 ≤ 16777216), ?_⟩
  rw [hw]
  refine wpAny_bind (wpAny_pure ?_)
  have ht : ({ s₁ with heap := s₁.heap.push { cls := .type "tuple", data := .seq [xa, xb].toArray } } : Shared).heap.IsTuple s₁.heap.objs.size #[xa, xb] := ⟨_, Heap.get?_push_size _ rfl, rfl, 0, rfl⟩
  have hk : ∀ b o, s₁.heap.get? b = some o → ({ s₁ with heap := s₁.heap.push { cls := .type "tuple", data := .seq [xa, xb].toArray } } : Shared).heap.get? b = some o := fun b o q => Heap.get?_push_of_some _ q
  have S' : StF G P sc D ρ H₁ { s₁ with heap := s₁.heap.push { cls := .type "tuple", data := .seq [xa, xb].toArray } } := S₁.ext hk
  generalize hg : ({ s₁ with heap := s₁.heap.push { cls := .type "tuple", data := .seq [xa, xb].toArray } } : Shared) = s' at ht S' ⊢
  generalize s₁.heap.objs.size = t at ht ⊢
  exact swap_tail r f ht S' ha hb hx hy q _ (.ref t)

theorem SX.ret {e : Expr} {p : Pos} (h : EV G n sc e (fun v H₁ => Q (.ret v) ρ H₁) ρ H) : SX G n sc (.Return (some e) p) Q ρ H :=
  fun A P D s r f S => wpAny_Return_some (wp_mono (h A P D s r S) fun x s₁ ⟨v, H₁, hv, S₁, q⟩ => ⟨_, _, _, .ret hv, S₁, q⟩)
theorem SX.ife {t : Expr} {b o : List Stmt} {p : Pos} (h : TV G n sc t (fun c H₁ => if c = true then SXs G n sc b Q ρ H₁ else SXs G n sc o Q ρ H₁) ρ H) : SX G n sc (.If t b o p) Q ρ H := by
  intro A P D s r f S
  refine wpAny_If (wp_mono (h A P D s r S) fun c s₁ ⟨H₁, S₁, h₁⟩ => ?_)
  cases c
  · exact h₁ A P D s₁ r f S₁
  · exact h₁ A P D s₁ r f S₁
theorem SX.brk {p : Pos} (h : Q .brk ρ H) : SX G n sc (.Break p) Q ρ H := fun A P D s r f S => wpAny_Break ⟨_, _, _, .brk, S, h⟩
theorem SX.cont {p : Pos} (h : Q .cont ρ H) : SX G n sc (.Continue p) Q ρ H := fun A P D s r f S => wpAny_Continue ⟨_, _, _, .cont, S, h⟩
/-- a call for its effect: it hands back None -/
theorem SX.expr {e : Expr} {p : Pos} (hk : sc.kind = .function) (hs : ∀ env, swapsWith e none p.line env = pure false) (h : EV G n sc e (fun v H₁ => v = .none ∧ Q .next ρ H₁) ρ H) : SX G n sc (.Expr e p) Q ρ H := by
  intro A P D s r f S
  refine wpAny_Expr (wp_mono (h A P D s r S) fun x s₁ ⟨v, H₁, hv, S₁, e, q⟩ => ?_) ?_ (hs _)
  · subst e; cases hv; exact ⟨_, _, _, .next, S₁, q⟩
  · unfold interactive; show (sc.kind == .module && _) = false; rw [hk]; rfl

/-- a while by an invariant that a number measures -/
abbrev whileP (Q : AF → Loc → AH → Prop) (I : Nat → Loc → AH → Prop) (k : Nat) : AF → Loc → AH → Prop := fun f ρ' H' => match f with
  | .next | .cont => ∃ H'' j, H''.le H' ∧ j < k ∧ I j ρ' H''
  | .brk => Q .next ρ' H'
  | .ret v => Q (.ret v) ρ' H'
theorem SX.while {t : Expr} {b : List Stmt} {p : Pos} (I : Nat → Loc → AH → Prop)
    (turn : ∀ k ρ H, I k ρ H → TV G n sc t (fun c H₁ => if c = true then SXs G n sc b (whileP Q I k) ρ H₁ else Q .next ρ H₁) ρ H) (k : Nat) (h : I k ρ H) : SX G n sc (.While t b [] p) Q ρ H := by
  intro A P D s r f S
  refine wpAny_While (codeAny_whileLoop (R := fun res s' => match res with | .ok f => StP G P sc D Q f s' | .error e => cameBackBy _ A _ FF e s') (fun k s => ∃ ρ H, StF G P sc D ρ H s ∧ I k ρ H) ?_ k ⟨ρ, H, S, h⟩)
  rintro k s ⟨ρ, H, S, h⟩
  refine wp_any (wp_mono (turn k ρ H h A P D s r S) fun c s₁ ⟨H₁, S₁, h₁⟩ => ?_)
  cases c with
  | false => exact wpAny_execs_nil ⟨_, _, _, .next, S₁, h₁⟩
  | true =>
    refine wp_any (wp_mono (h₁ A P D s₁ r f S₁) ?_)
    rintro fl s₂ ⟨af, ρ', H', hf, S₂, q⟩
    cases hf with
    | next => obtain ⟨H'', j, l, hj, q⟩ := q; exact ⟨j, hj, ρ', H'', S₂.sub l, q⟩
    | cont => obtain ⟨H'', j, l, hj, q⟩ := q; exact ⟨j, hj, ρ', H'', S₂.sub l, q⟩
    | brk => exact ⟨_, _, _, .next, S₂, q⟩
    | ret hv => exact ⟨_, _, _, .ret hv, S₂, q⟩
end


/-- what a loop goes over -/
inductive Src where
  | list (l : Addr) (vs : List AV)
  | range (a : Int) (n : Nat)
  | enum (l : Addr) (vs : List AV)
noncomputable def Src.len : Src → Nat
  | .list _ vs => vs.length
  | .range _ n => n
  | .enum _ vs => vs.length
noncomputable def Src.live (H : AH) : Src → Prop
  | .list l vs => H l = some (.list vs)
  | .range _ _ => True
  | .enum l vs => H l = some (.list vs)
noncomputable def Src.item (i : Nat) (H : AH) (K : AV → AH → Prop) : Src → Prop
  | .list _ vs => ∀ v, vs[i]? = some v → K v H
  | .range a _ => K (.int (a + i)) H
  | .enum _ vs => ∀ v, vs[i]? = some v → ∀ t, H t = none → K (.ref t) (H.set t (.tup [.int i, v]))
noncomputable def isName : Expr → Bool
  | .Name .. => true
  | _ => false
noncomputable def isTup : Expr → Bool
  | .Tuple .. => true
  | _ => false
noncomputable def AV.isRef : AV → Bool
  | .ref _ => true
  | _ => false
noncomputable def Src.fits (t : Expr) : Src → Bool
  | .list _ vs => isName t || (isTup t && vs.all AV.isRef)
  | .range _ _ => isName t
  | .enum _ _ => isTup t
noncomputable def ItAt (it : Addr) (fp : List Addr) (i : Nat) (h : Heap) : Src → Prop
  | .list l _ => fp = [it] ∧ h.IsListIter it l i
  | .range a n => fp = [it] ∧ IsRangeIter h it (a + i) ((n : Int) - i) 1
  | .enum l _ => ∃ it2 old, fp = [it, it2] ∧ it ≠ it2 ∧ IsEnum h it it2 i old ∧ h.IsListIter it2 l i
theorem ItAt.at {it : Addr} {fp : List Addr} {i : Nat} {h h' : Heap} {src : Src} (x : ItAt it fp i h src) (k : ∀ b ∈ fp, ∀ o, h.get? b = some o → h'.get? b = some o) : ItAt it fp i h' src := by
  cases src with
  | list l vs => obtain ⟨rfl, x⟩ := x; exact ⟨rfl, x.at fun o e => k it (by simp) o e⟩
  | range a n => obtain ⟨rfl, x⟩ := x; exact ⟨rfl, k it (by simp) _ x⟩
  | enum l vs => obtain ⟨it2, old, rfl, hne, x, y⟩ := x; exact ⟨it2, old, rfl, hne, k it (by simp) _ x, y.at fun o e => k it2 (by simp) o e⟩
theorem ItAt.live {it : Addr} {fp : List Addr} {i : Nat} {h : Heap} {src : Src} (x : ItAt it fp i h src) : ∀ b ∈ fp, ∃ o, h.get? b = some o := by
  cases src with
  | list l vs => obtain ⟨rfl, o, ho, _⟩ := x; intro b hb; simp at hb; subst hb; exact ⟨o, ho⟩
  | range a n => obtain ⟨rfl, x⟩ := x; intro b hb; simp at hb; subst hb; exact ⟨_, x⟩
  | enum l vs =>
    obtain ⟨it2, old, rfl, hne, x, o, ho, _⟩ := x
    intro b hb; simp at hb
    rcases hb with rfl | rfl
    · exact ⟨_, x⟩
    · exact ⟨o, ho⟩

/-- addresses that are nobody's -/
noncomputable def Apart (fp : List Addr) (P : Hid) (D : Dyn) (H : AH) : Prop := ∀ b ∈ fp, P b = none ∧ H b = none ∧ b ≠ D.L ∧ ∀ x c, D.cells.lookup x = some c → c ≠ b

section
variable {G : Gx} {P : Hid} {sc : Scope} {D : Dyn} {ρ : Loc} {H : AH} {s : Shared}
theorem StF.others {fp : List Addr} (S : StF G P sc D ρ H s) {h' : Heap} (a : Apart fp P D H) (k : ∀ b o, b ∉ fp → s.heap.get? b = some o → h'.get? b = some o) : StF G P sc D ρ H { s with heap := h' } := by
  refine ⟨⟨S.h.base, fun b o e => k b o (fun hb => by rw [(a b hb).1] at e; cases e) (S.h.keep b o e), fun b o e => (S.h.heap b o e).at fun ob x => k b ob (fun hb => by rw [(a b hb).2.1] at e; cases e) x, S.h.apart, S.h.gens, S.h.os⟩,
    S.f.at (fun o e => k _ o (fun hb => (a _ hb).2.2.1 rfl) e) fun x c hc o e => k c o (fun hb => (a c hb).2.2.2 x c hc rfl) e⟩

/-- some of nobody's are guarded -/
noncomputable def guardP (P : Hid) (fp : List Addr) (h : Heap) : Hid := fun b => if b ∈ fp then h.get? b else P b
theorem StF.guard {fp : List Addr} (S : StF G P sc D ρ H s) (a : Apart fp P D H) : StF G (guardP P fp s.heap) sc D ρ H s := by
  have out : ∀ b, b ∉ fp → guardP P fp s.heap b = P b := fun b hb => if_neg hb
  refine ⟨⟨fun b o e => ?_, fun b o e => ?_, S.h.heap, fun b o e => ?_, S.h.gens, S.h.os⟩, ⟨S.f.ns, S.f.cell, ?_, S.f.LH, S.f.cH, S.f.clive, S.f.cinj, fun hf x c hc => ?_⟩⟩
  · have := S.h.base b o e
    rw [out b fun hb => by rw [(a b hb).1] at this; cases this]; exact this
  · unfold guardP at e
    split at e
    · exact e
    · exact S.h.keep b o e
  · rw [out b fun hb => by rw [(a b hb).2.1] at e; cases e]; exact S.h.apart b o e
  · rw [out _ fun hb => (a _ hb).2.2.1 rfl]; exact S.f.LP
  · rw [out _ fun hb => (a _ hb).2.2.2 x c hc rfl]; exact S.f.cP hf x c hc
theorem StF.unguard {fp : List Addr} {s₀ s : Shared} {ρ : Loc} {H : AH} (S : StF G (guardP P fp s₀.heap) sc D ρ H s) (base : ∀ b o, G.base.get? b = some o → P b = some o) (hP : ∀ b ∈ fp, P b = none) : StF G P sc D ρ H s := by
  have le : ∀ b o, P b = some o → guardP P fp s₀.heap b = some o := fun b o e => by
    unfold guardP; rw [if_neg fun hb => by rw [hP b hb] at e; cases e]; exact e
  have none_of : ∀ b, guardP P fp s₀.heap b = none → P b = none := fun b e => by
    cases x : P b with
    | none => rfl
    | some o => rw [le b o x] at e; cases e
  exact ⟨⟨base, fun b o e => S.h.keep b o (le b o e), S.h.heap, fun a o e => none_of a (S.h.apart a o e), S.h.gens, S.h.os⟩, ⟨S.f.ns, S.f.cell, none_of _ S.f.LP, S.f.LH, S.f.cH, S.f.clive, S.f.cinj, fun hf x c hc => none_of c (S.f.cP hf x c hc)⟩⟩
/-- what the guarded look like behind a run -/
theorem StF.guarded {fp : List Addr} {s₀ s : Shared} {ρ : Loc} {H : AH} (S : StF G (guardP P fp s₀.heap) sc D ρ H s) {b : Addr} {o : Obj} (hb : b ∈ fp) (e : s₀.heap.get? b = some o) : s.heap.get? b = some o ∧ H b = none ∧ b ≠ D.L ∧ (D.func.isSome = true → ∀ x c, D.cells.lookup x = some c → c ≠ b) := by
  have h1 : guardP P fp s₀.heap b = some o := by unfold guardP; rw [if_pos hb]; exact e
  refine ⟨S.h.keep b o h1, ?_, fun e => ?_, fun hf x c hc e => ?_⟩
  · cases x : H b with
    | none => rfl
    | some o' => have := S.h.apart b o' x; rw [h1] at this; cases this
  · have := S.f.LP; rw [← e, h1] at this; cases this
  · have := S.f.cP hf x c hc; rw [e, h1] at this; cases this
end

section
variable {G : Gx} {n : Nat} {sc : Scope} {ρ : Loc} {H : AH}

theorem letOwned_name {t : Expr} {it v : Value} (h : isName t = true) : letOwnedTupleGo t it v = pure () := by
  cases t <;> first | rfl | cases h

/-- the next item, or the end -/
theorem draw {A : Around} {P : Hid} {D : Dyn} {s : Shared} {src : Src} {it : Addr} {fp : List Addr} {i : Nat} {t : Expr} {K : Value → Shared → Prop} {Z : Shared → Prop} (r : Room A n) (hi : ItAt it fp i s.heap src) (hap : Apart fp P D H) (hl : src.live H) (hf : src.fits t = true)
    (S : StF G P sc D ρ H s)
    (hit : i < src.len → ∃ KK : AV → AH → Prop, src.item i H KK ∧ ∀ av H' v s', KK av H' → VR av v → StF G P sc D ρ H' s' → ItAt it fp (i + 1) s'.heap src → (∀ b ∈ fp, H' b = none) → K v s')
    (hend : ¬ i < src.len → ∀ s', StF G P sc D ρ H s' → Z s') :
    wpAny (model G.prog G.w) A (pyNext (.ref it)) (fun q s₁ => match q with
      | none => Z s₁
      | some v => wpAny (model G.prog G.w) A (letOwnedTupleGo t (.ref it) v) (fun _ s₂ => K v s₂) FF s₁) FF s := by
  cases src with
  | list l vs =>
    obtain ⟨rfl, hli⟩ := hi
    obtain ⟨xs, hx, rx⟩ := (heapIs S).list hl
    have ex : vs.length = xs.size := by simpa using rx.1
    have hne : l ≠ it := fun e => by have := (hap it (by simp)).2.1; rw [← e] at this; have hl' : H l = some (.list vs) := hl; rw [hl'] at this; cases this
    by_cases hlt : i < vs.length
    · obtain ⟨KK, h1, h2⟩ := hit hlt
      obtain ⟨x, hx1, hx2⟩ := rx.get (List.getElem?_eq_getElem hlt)
      refine wpAny_pyNext_list_item hli hx (arr_get hx1) fun h' hit' hs' => ?_
      have S' : StF G P sc D ρ H { s with heap := h' } := S.others hap fun b o hb e => hs'.extBut b o (fun q => hb (by simp [q])) e
      have fin : K x { s with heap := h' } := h2 _ _ _ _ (h1 _ (List.getElem?_eq_getElem hlt)) hx2 S' ⟨rfl, hit'⟩ fun b hb => (hap b hb).2.1
      simp only [Src.fits, Bool.or_eq_true, Bool.and_eq_true] at hf
      rcases hf with hn | ⟨ht, hr⟩
      · dsimp only; rw [letOwned_name hn]; exact wpAny_pure fin
      · have hv : AV.isRef vs[i] = true := List.all_eq_true.mp hr _ (List.getElem_mem hlt)
        generalize vs[i] = av at hv hx2
        cases hx2 <;> first | (exfalso; exact Bool.false_ne_true hv) | skip
        cases t <;> first | (exfalso; exact Bool.false_ne_true ht) | skip
        exact wpAny_letOwnedTupleGo_listiter hit' fin
    · refine wpAny_pyNext_list_end r.handled hli hx (Array.getElem?_eq_none (by (first | lia | omega))) fun h' he => ?_
      exact hend hlt _ (S.others hap fun b o hb e => he b o (fun q => hb (by simp [q])) e)
  | range a m =>
    obtain ⟨rfl, hri⟩ := hi
    by_cases hlt : i < m
    · obtain ⟨KK, h1, h2⟩ := hit hlt
      refine wpAny_pyNext_range_item hri (by (first | lia | omega)) fun h' hit' hs' => ?_
      have S' : StF G P sc D ρ H { s with heap := h', toks := s.toks + 1 } := (S.others (h' := h') hap fun b o hb e => hs'.extBut b o (fun q => hb (by simp [q])) e).toks _
      dsimp only; rw [letOwned_name hf]
      refine wpAny_pure (h2 _ _ _ _ h1 (.int _ _) S' ⟨rfl, ?_⟩ fun b hb => (hap b hb).2.1)
      have e1 : a + ((i + 1 : Nat) : Int) = a + i + 1 := by (first | lia | omega)
      have e2 : (m : Int) - ((i + 1 : Nat) : Int) = (m : Int) - i - 1 := by (first | lia | omega)
      rw [e1, e2]; exact hit'
    · refine wpAny_pyNext_range_end r.handled hri (by (first | lia | omega)) fun h' he => ?_
      exact hend hlt _ (S.others hap fun b o hb e => he b o (fun q => hb (by simp [q])) e)
  | enum l vs =>
    obtain ⟨it2, old, rfl, hne2, hen, hli⟩ := hi
    obtain ⟨xs, hx, rx⟩ := (heapIs S).list hl
    have ex : vs.length = xs.size := by simpa using rx.1
    by_cases hlt : i < vs.length
    · obtain ⟨KK, h1, h2⟩ := hit hlt
      obtain ⟨x, hx1, hx2⟩ := rx.get (List.getElem?_eq_getElem hlt)
      refine wpAny_pyNext_enum_item hen hli hx (arr_get hx1) hne2 fun h' ho hit' hT hsz hk => ?_
      have S' : StF G P sc D ρ H { s with heap := h' } := S.others hap fun b o hb e => hk b o (fun q => hb (by simp [q])) (fun q => hb (by simp [q])) e
      have lt1 : it < s.heap.objs.size := Heap.lt_size hen
      have lt2 : it2 < s.heap.objs.size := by obtain ⟨_, q, _⟩ := hli; exact Heap.lt_size q
      have fr := S.h.fresh (Nat.le_refl s.heap.objs.size)
      have hLne : s.heap.objs.size ≠ D.L := Nat.ne_of_gt S.f.Llt
      -- the tuple joins the abstract heap
      have S₂ : StF G P sc D ρ (H.set s.heap.objs.size (.tup [.int i, vs[i]])) { s with heap := h' } := by
        refine ⟨⟨S'.h.base, S'.h.keep, fun b o e => ?_, fun b o e => ?_, S'.h.gens, S'.h.os⟩, S'.f.heap ((AH.set_ne _ _ hLne.symm).trans S'.f.LH) fun y c hc => (AH.set_ne _ _ (Nat.ne_of_lt (let ⟨_, q⟩ := S.f.clive y c hc; Heap.lt_size q))).trans (S'.f.cH y c hc).1⟩
        · by_cases hb : b = s.heap.objs.size
          · subst hb; rw [AH.set_self] at e; cases e
            exact ⟨_, 0, hT, VRs.cons (.int _ _) (VRs.cons hx2 VRs.nil)⟩
          · rw [AH.set_ne _ _ hb] at e; exact S'.h.heap b o e
        · by_cases hb : b = s.heap.objs.size
          · subst hb; exact fr.2
          · rw [AH.set_ne _ _ hb] at e; exact S'.h.apart b o e
      have hap2 : Apart [it, it2] P D (H.set s.heap.objs.size (.tup [.int i, vs[i]])) := fun b hb => by
        have := hap b hb
        refine ⟨this.1, (AH.set_ne _ _ ?_).trans this.2.1, this.2.2⟩
        simp at hb; rcases hb with rfl | rfl
        · exact Nat.ne_of_lt lt1
        · exact Nat.ne_of_lt lt2
      cases t <;> first | (exfalso; exact Bool.false_ne_true hf) | skip
      refine wpAny_letOwnedTupleGo_enum (s := { s with heap := h', toks := s.toks + 1 }) ho fun h'' he' hs' => ?_
      have S₃ : StF G P sc D ρ (H.set s.heap.objs.size (.tup [.int i, vs[i]])) { s with heap := h'', toks := s.toks + 1 } := (S₂.others (h' := h'') hap2 fun b o hb e => hs'.extBut b o (fun q => hb (by simp [q])) e).toks _
      refine h2 _ _ _ _ (h1 _ (List.getElem?_eq_getElem hlt) s.heap.objs.size fr.1) (.ref _) S₃ ⟨it2, _, rfl, hne2, by simpa using he', hit'.extBut hs'.extBut hne2.symm⟩ fun b hb => (hap2 b hb).2.1
    · refine wpAny_pyNext_enum_end r.handled hen hli hx (Array.getElem?_eq_none (by (first | lia | omega))) fun h' he => ?_
      exact hend hlt _ (S.others hap fun b o hb e => he b o (fun q => hb (by simp [q])) e)

/-- an expression, and its iterator -/
noncomputable def IT (G : Gx) (n : Nat) (sc : Scope) (e : Expr) (K : Src → AH → Prop) (ρ : Loc) (H : AH) : Prop :=
  ∀ A P D s, Room A n → StF G P sc D ρ H s → wpAny (model G.prog G.w) A (eval e (D.env sc)) (fun x s₁ => wpAny (model G.prog G.w) A (pyIter x) (fun v s₂ =>
    ∃ it fp src H', v = .ref it ∧ ItAt it fp 0 s₂.heap src ∧ Apart fp P D H' ∧ StF G P sc D ρ H' s₂ ∧ K src H') FF s₁) FF s
theorem apart_new {P : Hid} {D : Dyn} {s : Shared} (S : StF G P sc D ρ H s) {fp : List Addr} (h : ∀ b ∈ fp, s.heap.objs.size ≤ b) : Apart fp P D H := fun b hb =>
  have fr := S.h.fresh (h b hb)
  ⟨fr.2, fr.1, Nat.ne_of_gt (Nat.lt_of_lt_of_le S.f.Llt (h b hb)), fun x c hc => Nat.ne_of_lt (Nat.lt_of_lt_of_le (let ⟨_, q⟩ := S.f.clive x c hc; Heap.lt_size q) (h b hb))⟩
theorem IT.list {e : Expr} {K : Src → AH → Prop} (h : EV G n sc e (fun v H₁ => ∃ l vs, v = .ref l ∧ H₁ l = some (.list vs) ∧ K (.list l vs) H₁) ρ H) : IT G n sc e K ρ H := by
  intro A P D s r S
  refine wp_mono (h A P D s r S) fun x s₁ ⟨v, H₁, hv, S₁, l, vs, e, hl, q⟩ => ?_
  subst e; cases hv
  obtain ⟨xs, hx, rx⟩ := (heapIs S₁).list hl
  refine wpAny_pyIter_list hx ⟨_, _, .list l vs, H₁, rfl, ⟨rfl, _, Heap.get?_push_size _ rfl, rfl, rfl⟩, apart_new S₁ (by simp), S₁.ext fun b o q => Heap.get?_push_of_some _ q, q⟩
end


section
variable {G : Gx} {n : Nat} {sc : Scope} {ρ : Loc} {H : AH} {Q : AV → AH → Prop}

/-- a name that the text leaves to the builtins -/
noncomputable def BuiltinIs (G : Gx) (x : Str) (v : Value) : Prop := G.mg x = none ∧ G.mb x = some v
theorem ld_blt {A : Around} {P : Hid} {D : Dyn} {s : Shared} {x : Str} {p : Pos} {v : Value} {Q : Value → Shared → Prop} (hk : sc.kind = .function) (hl : sc.names.lookup x = some .globalImplicit) (hd : (x == ("__debug__" : Str)) = false) (hb : BuiltinIs G x v)
    (S : StF G P sc D ρ H s) (h : Q v s) : wpAny (model G.prog G.w) A (eval (.Name x p) (D.env sc)) Q FF s :=
  Name_function_global (env := D.env sc) hk hl (loadGlobal_builtin (ns_base S.h G.g) hb.1 (ns_base S.h G.b) hb.2 h) hd

/-- stars nowhere -/
noncomputable def noStar : List Expr → Bool
  | [] => true
  | .Starred .. :: _ => false
  | _ :: r => noStar r
theorem star_cons {e : Expr} {r : List Expr} (h : noStar (e :: r) = true) (env : Env) : starEach (e :: r) env = (false, eval e env) :: starEach r env := by
  cases e <;> first | rfl | (exfalso; exact Bool.false_ne_true h)
theorem noStar_tail {e : Expr} {r : List Expr} (h : noStar (e :: r) = true) : noStar r = true := by
  cases e <;> first | exact h | (exfalso; exact Bool.false_ne_true h)
theorem star_plain : ∀ {es : List Expr} (h : noStar es = true) (env : Env) (pos : Pos), (backTo pos (starEach es env)).any (·.1) = false
  | [], _, _, _ => rfl
  | e :: r, h, env, pos => by
    rw [star_cons h]
    show (false || (backTo pos (starEach r env)).any (·.1)) = false
    rw [star_plain (noStar_tail h)]; rfl
theorem ES.cons' {e : Expr} {es : List Expr} {Q : List AV → AH → Prop} (hs : noStar (e :: es) = true) (h : EV G n sc e (fun v H' => ES G n sc es (fun vs H'' => Q (v :: vs) H'') ρ H') ρ H) : ES G n sc (e :: es) Q ρ H :=
  ES.cons (star_cons hs) h

theorem EV.callT {x : Str} {p pos : Pos} {T : String} {e : Expr} {r : List Expr} (hk : sc.kind = .function) (hl : sc.names.lookup x = some .globalImplicit) (hd : (x == ("__debug__" : Str)) = false) (hb : BuiltinIs G x (.type T)) (hs : noStar (e :: r) = true)
    (h : ES G n sc (e :: r) (fun vs H₁ => ∀ xs, VRs vs xs → OP G n (call (.type T) xs) Q H₁) ρ H) : EV G n sc (.Call (.Name x p) (e :: r) [] pos) Q ρ H := by
  intro A P D s ro S
  refine wpAny_Call_NameR (ld_blt hk hl hd hb S ?_)
  refine callWith_type1 (wp_mono (h A P D s pos ro S) fun xs s₁ ⟨vs, H₁, hv, S₁, h₁⟩ => h₁ xs hv A P sc D ρ s₁ ro S₁) (star_cons hs _) (star_plain (noStar_tail hs) _ _)
theorem EV.callB {x : Str} {p pos : Pos} {id : String} {e : Expr} {r : List Expr} (hk : sc.kind = .function) (hl : sc.names.lookup x = some .globalImplicit) (hd : (x == ("__debug__" : Str)) = false) (hb : BuiltinIs G x (.builtin id)) (hs : noStar (e :: r) = true)
    (h : ES G n sc (e :: r) (fun vs H₁ => ∀ xs, VRs vs xs → OP G n (call (.builtin id) xs) Q H₁) ρ H) : EV G n sc (.Call (.Name x p) (e :: r) [] pos) Q ρ H := by
  intro A P D s ro S
  refine wpAny_Call_NameR (ld_blt hk hl hd hb S ?_)
  exact PyProof.Rows.callWith_builtin1 (wp_mono (h A P D s pos ro S) fun xs s₁ ⟨vs, H₁, hv, S₁, h₁⟩ => h₁ xs hv A P sc D ρ s₁ ro S₁) (star_cons hs _) (star_plain (noStar_tail hs) _ _)

theorem small_range {a b : Int} (ha : 0 ≤ a ∧ a < 2 ^ 40) (hb : -(2 ^ 40) < b ∧ b < 2 ^ 40) : Builtin.Range.small a b 1 = true ∧ Builtin.Range.rangeSize a b 1 = ((b - a).toNat : Int) := by
  have e : Builtin.Range.rangeSize a b 1 = ((b - a).toNat : Int) := by
    unfold Builtin.Range.rangeSize
    rw [if_pos (by decide)]
    split
    · rw [Int.ediv_one]; (first | lia | omega)
    · (first | lia | omega)
  refine ⟨?_, e⟩
  have f : ∀ i : Int, -(2 ^ 42) < i → i < 2 ^ 42 → Builtin.Range.rangeFitsLong i = true := fun i h1 h2 => by
    unfold Builtin.Range.rangeFitsLong
    simp only [Bool.and_eq_true, decide_eq_true_eq]; (first | lia | omega)
  unfold Builtin.Range.small
  rw [e, if_pos (by decide), f a (by (first | lia | omega)) (by (first | lia | omega)), f b (by (first | lia | omega)) (by (first | lia | omega)), f 1 (by (first | lia | omega)) (by (first | lia | omega)), f _ (by (first | lia | omega)) (by (first | lia | omega)), f (b + (1 - 1)) (by (first | lia | omega)) (by (first | lia | omega))]
  simp
theorem it_range {A : Around} {P : Hid} {D : Dyn} {s : Shared} {r : Addr} {a b : Int} {t u v : Tok} {K : Src → AH → Prop} (ha : 0 ≤ a ∧ a < 2 ^ 40) (hb : -(2 ^ 40) < b ∧ b < 2 ^ 40) (hr : IsRange s.heap r a b 1 t u v) (S : StF G P sc D ρ H s) (h : K (.range a (b - a).toNat) H) :
    wpAny (model G.prog G.w) A (pyIter (.ref r)) (fun v s₂ => ∃ it fp src H', v = .ref it ∧ ItAt it fp 0 s₂.heap src ∧ Apart fp P D H' ∧ StF G P sc D ρ H' s₂ ∧ K src H') FF s := by
  obtain ⟨h1, h2⟩ := small_range ha hb
  refine wpAny_pyIter_range hr h1 ?_
  refine ⟨_, _, .range a (b - a).toNat, H, rfl, ⟨rfl, ?_⟩, apart_new S (by simp), S.ext fun b o q => Heap.get?_push_of_some _ q, h⟩
  rw [h2]
  have := Heap.get?_push_size s.heap (o := { cls := .type "range_iterator", data := .fields #[rawInt a, rawInt ((b - a).toNat : Int), rawInt 1] }) rfl
  simpa [IsRangeIter] using this
theorem IT.range1 {x : Str} {p pos : Pos} {e : Expr} {K : Src → AH → Prop} (hk : sc.kind = .function) (hl : sc.names.lookup x = some .globalImplicit) (hd : (x == ("__debug__" : Str)) = false) (hb : BuiltinIs G x (.type "range")) (hs : noStar [e] = true)
    (h : EV G n sc e (fun v H₁ => ∃ b : Int, v = .int b ∧ (-(2 ^ 40) < b ∧ b < 2 ^ 40) ∧ K (.range 0 b.toNat) H₁) ρ H) : IT G n sc (.Call (.Name x p) [e] [] pos) K ρ H := by
  intro A P D s ro S
  refine wpAny_Call_NameR (ld_blt hk hl hd hb S ?_)
  refine callWith_type1 ?_ (star_cons hs _) (star_plain (noStar_tail hs) _ _)
  refine wp_mono ((ES.cons' (Q := fun vs H₁ => ∃ b : Int, vs = [.int b] ∧ (-(2 ^ 40) < b ∧ b < 2 ^ 40) ∧ K (.range 0 b.toNat) H₁) hs (h.mono fun v H₁ ⟨b, e, hb, q⟩ => ES.nil ⟨b, by rw [e], hb, q⟩)) A P D s pos ro S) fun xs s₁ ⟨vs, H₁, hv, S₁, b, e, hb, q⟩ => ?_
  subst e
  obtain ⟨xb, r, rfl, hx, hv⟩ := hv.cons_inv
  rw [hv.nil_inv]
  cases hx
  refine call_range_1 ?_
  have S₂ := (S₁.ext (h' := s₁.heap.push { cls := .type "range", data := .fields #[.int 0 s₁.toks, .int b ‹_›, .int 1 (s₁.toks + 1)] }) fun b o q => Heap.get?_push_of_some _ q).toks (s₁.toks + 1 + 1)
  exact it_range (a := 0) (by decide) hb (Heap.get?_push_size _ rfl) S₂ (by simpa using q)
theorem IT.range2 {x : Str} {p pos : Pos} {e e' : Expr} {K : Src → AH → Prop} (hk : sc.kind = .function) (hl : sc.names.lookup x = some .globalImplicit) (hd : (x == ("__debug__" : Str)) = false) (hb : BuiltinIs G x (.type "range")) (hs : noStar [e, e'] = true)
    (h : EV G n sc e (fun v H₁ => EV G n sc e' (fun w H₂ => ∃ a b : Int, v = .int a ∧ w = .int b ∧ (0 ≤ a ∧ a < 2 ^ 40) ∧ (-(2 ^ 40) < b ∧ b < 2 ^ 40) ∧ K (.range a (b - a).toNat) H₂) ρ H₁) ρ H) : IT G n sc (.Call (.Name x p) [e, e'] [] pos) K ρ H := by
  intro A P D s ro S
  refine wpAny_Call_NameR (ld_blt hk hl hd hb S ?_)
  refine callWith_type1 ?_ (star_cons hs _) (star_plain (noStar_tail hs) _ _)
  refine wp_mono ((ES.cons' (Q := fun vs H₁ => ∃ a b : Int, vs = [.int a, .int b] ∧ (0 ≤ a ∧ a < 2 ^ 40) ∧ (-(2 ^ 40) < b ∧ b < 2 ^ 40) ∧ K (.range a (b - a).toNat) H₁) hs (h.mono fun v H₁ h' => ES.cons' (noStar_tail hs) (h'.mono fun w H₂ ⟨a, b, e1, e2, ha, hb, q⟩ =>
    ES.nil ⟨a, b, by rw [e1, e2], ha, hb, q⟩))) A P D s pos ro S) fun xs s₁ ⟨vs, H₁, hv, S₁, a, b, e, ha, hb, q⟩ => ?_
  subst e
  obtain ⟨xa, r, rfl, hxa, hv⟩ := hv.cons_inv
  obtain ⟨xb, r, rfl, hxb, hv⟩ := hv.cons_inv
  rw [hv.nil_inv]
  obtain ⟨ta, rfl⟩ : ∃ t, xa = .int a t := by cases hxa; exact ⟨_, rfl⟩
  obtain ⟨tb, rfl⟩ : ∃ t, xb = .int b t := by cases hxb; exact ⟨_, rfl⟩
  refine call_range_2 ?_
  have S₂ := (S₁.ext (h' := s₁.heap.push { cls := .type "range", data := .fields #[.int a ta, .int b tb, .int 1 s₁.toks] }) fun b o q => Heap.get?_push_of_some _ q).toks (s₁.toks + 1)
  exact it_range ha hb (Heap.get?_push_size _ rfl) S₂ q
theorem IT.enum {x : Str} {p pos : Pos} {e : Expr} {K : Src → AH → Prop} (hk : sc.kind = .function) (hl : sc.names.lookup x = some .globalImplicit) (hd : (x == ("__debug__" : Str)) = false) (hb : BuiltinIs G x (.type "enumerate")) (hs : noStar [e] = true)
    (h : EV G n sc e (fun v H₁ => ∃ l vs, v = .ref l ∧ H₁ l = some (.list vs) ∧ K (.enum l vs) H₁) ρ H) : IT G n sc (.Call (.Name x p) [e] [] pos) K ρ H := by
  intro A P D s ro S
  refine wpAny_Call_NameR (ld_blt hk hl hd hb S ?_)
  refine callWith_type1 ?_ (star_cons hs _) (star_plain (noStar_tail hs) _ _)
  refine wp_mono ((ES.cons' (Q := fun us H₁ => ∃ l vs, us = [.ref l] ∧ H₁ l = some (.list vs) ∧ K (.enum l vs) H₁) hs (h.mono fun v H₁ ⟨l, vs, e, hl, q⟩ => ES.nil ⟨l, vs, by rw [e], hl, q⟩)) A P D s pos ro S) fun xs s₁ ⟨us, H₁, hv, S₁, l, vs, e, hl, q⟩ => ?_
  subst e
  obtain ⟨xb, r, rfl, hx, hv⟩ := hv.cons_inv
  rw [hv.nil_inv]
  cases hx
  obtain ⟨xs, k, hx, rx⟩ := S₁.h.heap _ _ hl
  refine call_enumerate_1 hx fun h' he hi hz hk => ?_
  refine wpAny_pyIter_enum (s := { s₁ with heap := h' }) he ?_
  refine ⟨_, _, .enum l vs, H₁, rfl, ⟨s₁.heap.objs.size, .none, rfl, Nat.succ_ne_self _, he, hi⟩, apart_new S₁ (by intro b hb; simp at hb; rcases hb with rfl | rfl; exact Nat.le_succ _; exact Nat.le_refl _), S₁.ext hk, q⟩
end


theorem forLoop_any {prog : Program} {w : World} {A : Around} {s : Shared} {R : Result → Shared → Prop} {target it body orelse env} (I : Nat → Shared → Prop)
    (turn : ∀ n s, I n s → wpAny (model prog w) A (pyNext it) (fun r s₁ => match r with
      | none => wpAny (model prog w) A (execs orelse env) (fun f s₃ => R (.ok f) s₃) FF s₁
      | some v => wpAny (model prog w) A (letOwnedTupleGo target it v) (fun _ s₁ => wpAny (model prog w) A (assign target env v) (fun _ s₂ => wpAny (model prog w) A (execs body env) (fun f s₃ => match f with
          | .next | .cont => ∃ m, m < n ∧ I m s₃
          | .brk => R (.ok .next) s₃
          | .ret v => R (.ok (.ret v)) s₃) FF s₂) FF s₁) FF s₁) FF s)
    (n : Nat) (h : I n s) : codeAny (model prog w) A (.forLoop target it body orelse env) R s := by
  have up : ∀ {α : Type} {t : Sem α} {Q : α → Shared → Prop} {E : Value → Shared → Prop} {s : Shared}, wpAny (model prog w) A t Q FF s → wpAny (model prog w) A t Q E s := fun h => wpAny_mono h (fun _ _ e => e) fun _ _ e => e.elim
  refine codeAny_loop' rfl I (fun n s hI => ?_) n h
  show wpAny _ _ ((forTurn target it body orelse env).onRaise (fun x => do noteFrame x env; theTreesLotGoes x)) _ _ s
  refine wpAny_noted ?_
  simp only [forTurn]
  refine wpAny_bind (wpAny_standAt (wpAny_bind (wpAny_onRaise (up (wpAny_mono (turn n s hI) (fun r s₁ h₁ => ?_) fun _ _ e => e)))))
  cases r with
  | none => exact wpAny_pure (.inr ⟨rfl, codeAny_block (up h₁)⟩)
  | some v =>
    refine wpAny_bind (up (wpAny_mono h₁ (fun _ s₂ h₂ => wpAny_bind (up (wpAny_mono h₂ (fun _ s₃ h₃ => wpAny_bind (up (wpAny_mono h₃ (fun f s₄ h₄ => ?_) fun _ _ e => e))) fun _ _ e => e))) fun _ _ e => e))
    cases f with
    | next => exact wpAny_pure (.inl ⟨rfl, h₄⟩)
    | cont => exact wpAny_pure (.inl ⟨rfl, h₄⟩)
    | brk => exact wpAny_pure h₄
    | ret v => exact wpAny_pure h₄

theorem compLoop_any {prog : Program} {w : World} {A : Around} {s : Shared} {R : Result → Shared → Prop} {elt target iter : Expr} {ifs : List Expr} {scope : Scope} {pos : Pos} {it acc : Value} {env : Env} (I : Nat → Shared → Prop)
    (turn : ∀ n s, I n s → wpAny (model prog w) A (pyNext it) (fun r s₁ => match r with
      | none => R (.ok .next) s₁
      | some v => wpAny (model prog w) A (letOwnedTupleGo target it v) (fun _ s₁ => wpAny (model prog w) A (assign target env v) (fun _ s₂ =>
          wpAny (model prog w) A (forIn ifs true fun c r => if r = true then do let ok ← isTrue c env (eval c env); pure (ForInStep.yield ok) else pure (ForInStep.yield r)) (fun ok s₃ =>
            if ok = true then wpAny (model prog w) A (eval elt env) (fun x s₄ => wpAny (model prog w) A (call (.builtin "list.append") [acc, x]) (fun _ s₅ => ∃ m, m < n ∧ I m s₅) FF s₄) FF s₃
            else ∃ m, m < n ∧ I m s₃) FF s₂) FF s₁) FF s₁) FF s)
    (n : Nat) (h : I n s) :
    codeAny (model prog w) A (.compLoop (.ListComp elt [⟨target, iter, ifs, 0⟩] scope pos) 0 it acc env) R s := by
  have up : ∀ {α : Type} {t : Sem α} {Q : α → Shared → Prop} {E : Value → Shared → Prop} {s : Shared}, wpAny (model prog w) A t Q FF s → wpAny (model prog w) A t Q E s := fun h => wpAny_mono h (fun _ _ e => e) fun _ _ e => e.elim
  refine codeAny_loop rfl I (fun n s hI => ?_) n h
  show wpAny _ A ((compTurn (.ListComp elt [⟨target, iter, ifs, 0⟩] scope pos) 0 it acc env).onRaise (fun x => do noteFrame x env; theTreesLotGoes x)) _ _ s
  refine wpAny_noted ?_
  rw [compTurn_list]
  refine wpAny_bind (wpAny_standAt (wpAny_bind (up (wpAny_mono (turn n s hI) (fun r s₁ h₁ => ?_) fun _ _ e => e))))
  cases r with
  | none => exact wpAny_pure h₁
  | some v =>
    refine wpAny_bind (up (wpAny_mono h₁ (fun _ s₁ h₁ => ?_) fun _ _ e => e))
    refine wpAny_bind (up (wpAny_mono h₁ (fun _ s₂ h₂ => wpAny_bind (up (wpAny_mono h₂ (fun ok s₃ h₃ => ?_) fun _ _ e => e))) fun _ _ e => e))
    cases ok with
    | false => exact wpAny_pure ⟨rfl, h₃⟩
    | true =>
      exact wpAny_bind (wpAny_bind (up (wpAny_mono h₃ (fun x s₄ h₄ => wpAny_bind (up (wpAny_mono h₄ (fun _ s₅ h₅ => wpAny_pure (wpAny_pure ⟨rfl, h₅⟩)) fun _ _ e => e))) fun _ _ e => e)))

section
variable {G : Gx} {n : Nat} {sc : Scope} {ρ : Loc} {H : AH}

/-- what a turn of a for leaves -/
abbrev forP (Q : AF → Loc → AH → Prop) (I : Nat → Loc → AH → Prop) (i : Nat) : AF → Loc → AH → Prop := fun f ρ'' H3 => match f with
  | .next | .cont => ∃ H4, H4.le H3 ∧ I (i + 1) ρ'' H4
  | .brk => Q .next ρ'' H3
  | .ret v => Q (.ret v) ρ'' H3
/-- one turn, in the words of the abstract state -/
noncomputable def ForTurn (G : Gx) (n : Nat) (sc : Scope) (target : Expr) (body : List Stmt) (Q : AF → Loc → AH → Prop) (I : Nat → Loc → AH → Prop) (src : Src) (i : Nat) (ρ : Loc) (H : AH) : Prop :=
  src.live H ∧ src.item i H (fun av H' => AS G n true sc target av (fun ρ' H'' => SXs G n sc body (forP Q I i) ρ' H'') ρ H')

inductive ForJ (G : Gx) (sc : Scope) (P : Hid) (D : Dyn) (it : Addr) (fp : List Addr) (src : Src) (I : Nat → Loc → AH → Prop) (k : Nat) (s : Shared) : Prop
  | mk (i : Nat) (ρ : Loc) (H : AH) : k = src.len - i + 1 → i ≤ src.len → ItAt it fp i s.heap src → Apart fp P D H → StF G P sc D ρ H s → I i ρ H → ForJ G sc P D it fp src I k s
theorem SX.for {target iter : Expr} {body : List Stmt} {p : Pos} {Q : AF → Loc → AH → Prop} (hs : ∀ (D : Dyn) x, foldedSetIterable iter (D.env sc) x = pure x)
    (h : IT G n sc iter (fun src H₁ => src.fits target = true ∧ ∃ I : Nat → Loc → AH → Prop, I 0 ρ H₁ ∧ (∀ i ρ H, i < src.len → I i ρ H → ForTurn G n sc target body Q I src i ρ H) ∧
      ∀ ρ H, I src.len ρ H → src.live H ∧ Q .next ρ H) ρ H) : SX G n sc (.For target iter body [] p) Q ρ H := by
  intro A P D s r f S
  refine wpAny_For (wp_mono (h A P D s r S) fun x s₁ h₁ => wp_mono h₁ fun v s₂ ⟨it, fp, src, H₁, e, hit, hap, S₂, hfit, I, i0, turn, done⟩ => ?_) (hs _)
  subst e
  have base := S₂.h.base
  have hP : ∀ b ∈ fp, P b = none := fun b hb => (hap b hb).1
  refine forLoop_any (R := fun res s' => match res with | .ok f => StP G P sc D Q f s' | .error e => cameBackBy _ A _ FF e s')
    (fun k s => ForJ G sc P D it fp src I k s) ?_ _ ⟨0, ρ, H₁, rfl, Nat.zero_le _, hit, hap, S₂, i0⟩
  rintro k s ⟨i, ρ, H, rfl, hi, hit, hap, S, hI⟩
  by_cases hlt : i < src.len
  · obtain ⟨hlive, hitem⟩ := turn i ρ H hlt hI
    refine wp_mono (draw (t := target) (K := fun v s₂ => wpAny (model G.prog G.w) A (assign target (D.env sc) v) (fun _ s₂ => wpAny (model G.prog G.w) A (execs body (D.env sc)) (fun f s₃ => match f with
          | .next | .cont => ∃ m, m < src.len - i + 1 ∧ ForJ G sc P D it fp src I m s₃
          | .brk => StP G P sc D Q .next s₃
          | .ret v => StP G P sc D Q (.ret v) s₃) FF s₂) FF s₂) (Z := fun _ => False) r hit hap hlive hfit S (fun _ => ⟨_, hitem, fun av H' v s' kk hv S' hit' hfp => ?_⟩) fun h => absurd hlt h) ?_
    · have hap' : Apart fp P D H' := fun b hb => ⟨(hap b hb).1, hfp b hb, (hap b hb).2.2⟩
      have Sg := S'.guard hap'
      refine wp_mono (kk A _ D s' v r (fun _ => f) Sg hv) fun _ s₂ ⟨ρ', H'', S₂', kk'⟩ => wp_mono (kk' A _ D s₂ r f S₂') ?_
      rintro fl s₃ ⟨af, ρ'', H3, hf, S₃, q⟩
      have S₃' := S₃.unguard base hP
      have next : (∃ H4, H4.le H3 ∧ I (i + 1) ρ'' H4) → ∃ m, m < src.len - i + 1 ∧ ForJ G sc P D it fp src I m s₃ := by
        rintro ⟨H4, le, hI'⟩
        have S₄ := S₃.sub le
        refine ⟨src.len - (i + 1) + 1, by (first | lia | omega), i + 1, ρ'', H4, rfl, hlt, hit'.at fun b hb o e => (S₄.guarded hb e).1, fun b hb => ?_, S₃'.sub le, hI'⟩
        obtain ⟨o, ho⟩ := hit'.live b hb
        exact ⟨hP b hb, (S₄.guarded hb ho).2.1, (hap b hb).2.2⟩
      cases hf with
      | next => exact next q
      | cont => exact next q
      | brk => exact ⟨_, _, _, .next, S₃', q⟩
      | ret hv => exact ⟨_, _, _, .ret hv, S₃', q⟩
    · rintro q s₁ hq
      cases q with
      | none => exact hq.elim
      | some v => exact hq
  · have hil : i = src.len := by (first | lia | omega)
    subst hil
    obtain ⟨hlive, hq⟩ := done ρ H hI
    refine wp_mono (draw (t := target) (K := fun _ _ => False) (Z := fun s' => StF G P sc D ρ H s') r hit hap hlive hfit S (fun h => absurd h hlt) fun _ s' S' => S') ?_
    rintro q s₁ h1
    cases q with
    | none => exact wpAny_execs_nil ⟨_, _, _, .next, h1, hq⟩
    | some v => exact wp_mono h1 fun _ _ e => e.elim
end


section
variable {G : Gx} {P : Hid} {sc : Scope} {D : Dyn} {ρ : Loc} {H : AH} {s : Shared}
/-- an object that nobody had joins the abstract heap -/
theorem StF.join (S : StF G P sc D ρ H s) {a : Addr} {o : AO} (hH : H a = none) (hP : P a = none) (hL : a ≠ D.L) (hc : ∀ x c, D.cells.lookup x = some c → c ≠ a) (r : ORep s.heap a o) : StF G P sc D ρ (H.set a o) s := by
  refine ⟨⟨S.h.base, S.h.keep, fun b ob e => ?_, fun b ob e => ?_, S.h.gens, S.h.os⟩, S.f.heap ((AH.set_ne _ _ hL.symm).trans S.f.LH) fun y c q => (AH.set_ne _ _ (hc y c q)).trans (S.f.cH y c q).1⟩
  · by_cases hb : b = a
    · subst hb; rw [AH.set_self] at e; cases e; exact r
    · rw [AH.set_ne _ _ hb] at e; exact S.h.heap b ob e
  · by_cases hb : b = a
    · subst hb; exact hP
    · rw [AH.set_ne _ _ hb] at e; exact S.h.apart b ob e

/-- all but the abstract heap and the iterator -/
noncomputable def hid2 (H : AH) (fp : List Addr) (h : Heap) : Hid := fun b => if (H b).isSome ∨ b ∈ fp then none else h.get? b
theorem hid2_of {fp : List Addr} {h : Heap} {b : Addr} {o : Obj} (e1 : H b = none) (e2 : b ∉ fp) (e3 : h.get? b = some o) : hid2 H fp h b = some o := by
  unfold hid2
  rw [if_neg]
  · exact e3
  · rintro (e | e)
    · rw [e1] at e; cases e
    · exact e2 e
theorem hid2_some {fp : List Addr} {h : Heap} {b : Addr} {o : Obj} (e : hid2 H fp h b = some o) : H b = none ∧ b ∉ fp ∧ h.get? b = some o := by
  unfold hid2 at e
  split at e
  · cases e
  · rename_i hn
    refine ⟨?_, fun q => hn (.inr q), e⟩
    cases x : H b with
    | none => rfl
    | some o' => exact (hn (.inl (by rw [x]; rfl))).elim
theorem StF.hid2 {fp : List Addr} (S : StF G P sc D ρ H s) (hap : Apart fp P D H) : ∀ b o, P b = some o → Mine.hid2 H fp s.heap b = some o := fun b o e => by
  refine hid2_of ?_ (fun q => by rw [(hap b q).1] at e; cases e) (S.h.keep b o e)
  cases x : H b with
  | none => rfl
  | some o' => rw [S.h.apart b o' x] at e; cases e
/-- the outer state, behind a comprehension's block -/
theorem StF.outer {fp : List Addr} {sc' : Scope} {D' : Dyn} {ρ' : Loc} {H' : AH} {s' : Shared} (S : StF G P sc D ρ H s) (hap : Apart fp P D H) (S' : StF G (Mine.hid2 H fp s.heap) sc' D' ρ' H' s') : StF G P sc D ρ H' s' := by
  have le := S.hid2 hap
  have hid : ∀ c o, H c = none → c ∉ fp → s.heap.get? c = some o → s'.heap.get? c = some o ∧ H' c = none := fun c o e1 e2 h => by
    have h1 := hid2_of e1 e2 h
    refine ⟨S'.h.keep c o h1, ?_⟩
    cases x : H' c with
    | none => rfl
    | some o' => have := S'.h.apart c o' x; rw [h1] at this; cases this
  have Lfp : D.L ∉ fp := fun q => (hap _ q).2.2.1 rfl
  have cfp : ∀ x c, D.cells.lookup x = some c → c ∉ fp := fun x c hc q => (hap c q).2.2.2 x c hc rfl
  refine ⟨⟨S.h.base, fun b o e => S'.h.keep b o (le b o e), S'.h.heap, fun a o e => ?_, S'.h.gens, S'.h.os⟩,
    (S.f.at (fun o e => (hid _ o S.f.LH Lfp e).1) fun x c hc o e => (hid c o (S.f.cH x c hc).1 (cfp x c hc) e).1).heap ?_ fun x c hc => ?_⟩
  · cases x : P a with
    | none => rfl
    | some o' => have := S'.h.apart a o e; rw [le a o' x] at this; cases this
  · obtain ⟨m, ⟨o, _, _, ho, _⟩, _⟩ := S.f.ns; exact (hid _ o S.f.LH Lfp ho).2
  · obtain ⟨o, ho⟩ := S.f.clive x c hc; exact (hid c o (S.f.cH x c hc).1 (cfp x c hc) ho).2
end

noncomputable def relS (scope sc : Scope) : Scope := { scope with names := scope.names.map fun (n, k) => if (k == .free && sc.kind == .function && sc.names.lookup n == some .cell) then (n, .cell) else (n, k) }
theorem relabel_eq (scope sc : Scope) (D : Dyn) : relabel scope (D.env sc) = relS scope sc := rfl
theorem relS_lookup (scope sc : Scope) (x : Str) : (relS scope sc).names.lookup x = (scope.names.lookup x).map fun k => if (k == .free && sc.kind == .function && sc.names.lookup x == some .cell) then .cell else k := by
  unfold relS
  dsimp only
  generalize scope.names = l
  induction l with
  | nil => rfl
  | cons p r ih =>
    obtain ⟨n, k⟩ := p
    rw [List.map_cons]
    by_cases hx : x = n
    · subst hx
      by_cases hc : (k == NameKind.free && sc.kind == .function && sc.names.lookup x == some .cell) = true
      · simp only [hc, if_true, List.lookup_cons, beq_self_eq_true, Option.map_some]
      · simp only [hc, if_false, Bool.false_eq_true, List.lookup_cons, beq_self_eq_true, Option.map_some]
    · have hb : (x == n) = false := by simpa using hx
      by_cases hc : (k == NameKind.free && sc.kind == .function && sc.names.lookup n == some .cell) = true
      · simp only [hc, if_true, List.lookup_cons, hb]; exact ih
      · simp only [hc, List.lookup_cons, hb, Bool.false_eq_true, if_false]; exact ih

noncomputable def cloL (D : Dyn) : List (Str × NameKind) → List (Str × Addr) → List (Str × Addr)
  | [], acc => acc
  | (n, k) :: r, acc => if k == .free then (match D.cells.lookup n with | some c => cloL D r ((n, c) :: acc) | none => cloL D r acc) else cloL D r acc
theorem closure_go (D : Dyn) (sc : Scope) : ∀ (l : List (Str × NameKind)) (acc : List (Str × Addr)), (∀ x ∈ l, x.2 = .free → (D.cells.lookup x.1).isSome = true) →
    (forIn l acc (fun (x : Str × NameKind) (cs : List (Str × Addr)) => match x with | (name, kind) => if kind == .free then (do let c ← cellOf (D.env sc) name; pure (ForInStep.yield ((name, c) :: cs))) else pure (ForInStep.yield cs)) : Sem (List (Str × Addr))) = pure (cloL D l acc)
  | [], acc, _ => rfl
  | (n, k) :: r, acc, h => by
    have ih := closure_go D sc r
    rw [List.forIn_cons]
    unfold cloL
    by_cases hk : (k == NameKind.free) = true
    · have := h (n, k) List.mem_cons_self (beq_iff_eq.mp hk)
      obtain ⟨c, hc⟩ := Option.isSome_iff_exists.mp this
      have hc' : D.cells.lookup n = some c := hc
      simp only [hk, if_true, hc']
      have e : cellOf (D.env sc) n = pure c := by
        unfold cellOf
        show (match D.cells.lookup n with | some c => _ | none => _) = _
        rw [hc']
      rw [e]
      exact ih _ fun x hx => h x (List.mem_cons_of_mem _ hx)
    · simp only [hk, if_false, Bool.false_eq_true]
      exact ih _ fun x hx => h x (List.mem_cons_of_mem _ hx)
theorem closure_eq (D : Dyn) (sc scope : Scope) (h : ∀ x ∈ scope.names, x.2 = .free → (D.cells.lookup x.1).isSome = true) : closureFor scope (D.env sc) = pure (cloL D scope.names []) := by
  have e : closureFor scope (D.env sc) = ((forIn scope.names [] (fun (x : Str × NameKind) (cs : List (Str × Addr)) => match x with | (name, kind) => if kind == .free then (do let c ← cellOf (D.env sc) name; pure (ForInStep.yield ((name, c) :: cs))) else pure (ForInStep.yield cs)) : Sem (List (Str × Addr))) >>= fun cs => pure cs) := rfl
  rw [e, closure_go D sc scope.names [] h]
  rfl
theorem cloL_mem (D : Dyn) : ∀ (l : List (Str × NameKind)) (acc : List (Str × Addr)) (n : Str) (c : Addr), (n, c) ∈ cloL D l acc → (n, c) ∈ acc ∨ D.cells.lookup n = some c
  | [], _, _, _, h => .inl h
  | (m, k) :: r, acc, n, c, h => by
    unfold cloL at h
    split at h
    · split at h
      · rename_i c' hc'
        rcases cloL_mem D r _ n c h with h | h
        · rcases List.mem_cons.mp h with e | h
          · cases e; exact .inr hc'
          · exact .inl h
        · exact .inr h
      · exact cloL_mem D r _ n c h
    · exact cloL_mem D r _ n c h
theorem cloL_keep (D : Dyn) : ∀ (l : List (Str × NameKind)) (acc : List (Str × Addr)) (p : Str × Addr), p ∈ acc → p ∈ cloL D l acc
  | [], _, _, h => h
  | (m, k) :: r, acc, p, h => by
    unfold cloL
    split
    · split
      · exact cloL_keep D r _ p (List.mem_cons_of_mem _ h)
      · exact cloL_keep D r _ p h
    · exact cloL_keep D r _ p h
theorem cloL_has (D : Dyn) : ∀ (l : List (Str × NameKind)) (acc : List (Str × Addr)) (n : Str) (c : Addr), (n, .free) ∈ l → D.cells.lookup n = some c → (n, c) ∈ cloL D l acc
  | [], _, _, _, h, _ => (nomatch h)
  | (m, k) :: r, acc, n, c, h, hc => by
    unfold cloL
    rcases List.mem_cons.mp h with e | h
    · cases e
      simp only [beq_self_eq_true, if_true, hc]
      exact cloL_keep D r _ _ List.mem_cons_self
    · split
      · split
        · exact cloL_has D r _ n c h hc
        · exact cloL_has D r _ n c h hc
      · exact cloL_has D r _ n c h hc
theorem lookup_of_mem_uniq {l : List (Str × Addr)} {n : Str} {c : Addr} (h : (n, c) ∈ l) (u : ∀ c', (n, c') ∈ l → c' = c) : l.lookup n = some c := by
  cases e : l.lookup n with
  | some c' => rw [u c' (mem_of_lookup e)]
  | none =>
    exfalso
    induction l with
    | nil => cases h
    | cons p r ih =>
      obtain ⟨m, d⟩ := p
      rw [List.lookup_cons] at e
      by_cases hm : n = m
      · subst hm; simp at e
      · have hb : (n == m) = false := by simpa using hm
        rw [hb] at e
        rcases List.mem_cons.mp h with q | q
        · cases q; exact hm rfl
        · exact ih q (fun c' hc' => u c' (List.mem_cons_of_mem _ hc')) e
theorem cloL_lookup {D : Dyn} {l : List (Str × NameKind)} {n : Str} {c : Addr} (h : (cloL D l []).lookup n = some c) : D.cells.lookup n = some c :=
  (cloL_mem D l [] n c (mem_of_lookup h)).resolve_left (by simp)
theorem cloL_lookup_of {D : Dyn} {l : List (Str × NameKind)} {n : Str} {c : Addr} (h : (n, .free) ∈ l) (hc : D.cells.lookup n = some c) : (cloL D l []).lookup n = some c :=
  lookup_of_mem_uniq (cloL_has D l [] n c h hc) fun c' h' => by
    have := (cloL_mem D l [] n c' h').resolve_left (by simp)
    rw [hc] at this; cases this; rfl
theorem lookup_mem_kind {l : List (Str × NameKind)} {n : Str} {k : NameKind} (h : l.lookup n = some k) : (n, k) ∈ l := by
  induction l with
  | nil => cases h
  | cons p r ih =>
    obtain ⟨m, d⟩ := p
    rw [List.lookup_cons] at h
    by_cases hm : n = m
    · subst hm; simp at h; subst h; exact List.mem_cons_self
    · have hb : (n == m) = false := by simpa using hm
      rw [hb] at h; exact List.mem_cons_of_mem _ (ih h)

/-- what a comprehension's block knows of the names around it -/
noncomputable def rhoIn (scope sc : Scope) (ρ : Loc) : Loc := fun x => if (relS scope sc).names.lookup x = some .cell then ρ x else none
noncomputable def Loc.le (ρ ρ' : Loc) : Prop := ∀ x v, ρ x = some v → ρ' x = some v

section
variable {G : Gx} {P : Hid} {sc : Scope} {D : Dyn} {ρ : Loc} {H : AH} {s : Shared} {n : Nat}
theorem Fm.forget {ρ' : Loc} {h : Heap} (F : Fm sc D ρ' P H h) (k : Loc.le ρ ρ') : Fm sc D ρ P H h := by
  obtain ⟨⟨m, n, r⟩, c, a1, a2, a3, a6, a4, a5⟩ := F
  refine ⟨⟨m, n, fun x v hx hv => r x v hx (k x v hv)⟩, fun x hx => ?_, a1, a2, a3, a6, a4, a5⟩
  obtain ⟨cc, vo, h1, h2, h4⟩ := c x hx
  exact ⟨cc, vo, h1, h2, fun v hv => h4 v (k x v hv)⟩
theorem StF.forget {ρ' : Loc} (S : StF G P sc D ρ' H s) (k : Loc.le ρ ρ') : StF G P sc D ρ H s := ⟨S.h, S.f.forget k⟩

theorem it_self {A : Around} {src : Src} {it : Addr} {fp : List Addr} {i : Nat} {s : Shared} (h : ItAt it fp i s.heap src) {Q : Value → Shared → Prop} (q : Q (.ref it) s) : wpAny (model G.prog G.w) A (pyIter (.ref it)) Q FF s := by
  cases src with
  | list l vs => exact wpAny_pyIter_listiter h.2 q
  | range a n => exact wpAny_pyIter_rangeiter h.2 q
  | enum l vs => obtain ⟨it2, old, _, _, he, _⟩ := h; exact wpAny_pyIter_enum he q

/-- a comprehension's tests: none, or one -/
noncomputable def IFS (G : Gx) (n : Nat) (sc : Scope) : List Expr → (Bool → AH → Prop) → Loc → AH → Prop
  | [], K, _, H => K true H
  | [c], K, ρ, H => TV G n sc c K ρ H
  | _, _, _, _ => False
/-- one turn -/
noncomputable def CompTurn (G : Gx) (n : Nat) (sc : Scope) (elt target : Expr) (ifs : List Expr) (J : Nat → List AV → AH → Prop) (src : Src) (ρin : Loc) (i : Nat) (ys : List AV) (H : AH) : Prop :=
  src.live H ∧ ys.length ≤ 2 ^ 20 ∧ src.item i H (fun av H' => AS G n false sc target av (fun ρ' H'' => Loc.le ρin ρ' ∧ IFS G n sc ifs (fun ok H3 => if ok = true then EV G n sc elt (fun v H4 => ∃ H5, H5.le H4 ∧ J (i + 1) (ys ++ [v]) H5) ρ' H3
    else ∃ H5, H5.le H3 ∧ J (i + 1) ys H5) ρ' H'') ρin H')
noncomputable def CompOk (G : Gx) (n : Nat) (sc : Scope) (elt target : Expr) (ifs : List Expr) (scope : Scope) (Z : List AV → AH → Prop) (ρ : Loc) (src : Src) (H : AH) : Prop :=
  src.fits target = true ∧ ∃ J : Nat → List AV → AH → Prop, J 0 [] H ∧ (∀ i ys H, i < src.len → J i ys H → CompTurn G n (relS scope sc) elt target ifs J src (rhoIn scope sc ρ) i ys H) ∧
    ∀ ys H, J src.len ys H → src.live H ∧ Z ys H

/-- the scope of a comprehension's block is as it should be -/
noncomputable def scopeOk (scope sc : Scope) : Bool :=
  scope.kind == .function && scope.names.all (fun x => x.2 != .cell) && scope.names.all (fun x => x.2 != .free || (sc.kind == .function && sc.names.lookup x.1 == some .cell)) &&
  scope.names.all fun x => x.2 != .local || scope.names.lookup x.1 == some .local
end


section
variable {G : Gx} {P : Hid} {sc : Scope} {D : Dyn} {ρ : Loc} {H : AH} {s : Shared} {n : Nat}

noncomputable def compD (D : Dyn) (scope : Scope) (C : Addr) : Dyn := { L := C, cells := cloL D scope.names [], qual := D.qual, func := none, code := D.code, frame := D.frame }

theorem comp_start {scope : Scope} {fp : List Addr} {h₁ : Heap} {C : Addr} {t : Nat} (hsc : scopeOk scope sc = true) (S : StF G P sc D ρ H s) (hap : Apart fp P D H) (hC : s.heap.objs.size ≤ C) (old : ∀ b o, s.heap.get? b = some o → h₁.get? b = some o) (hn : h₁.Ns C fun _ => none) :
    StF G (hid2 H fp s.heap) (relS scope sc) (compD D scope C) (rhoIn scope sc ρ) H { s with heap := h₁, toks := t } := by
  unfold scopeOk at hsc
  simp only [Bool.and_eq_true, beq_iff_eq, List.all_eq_true, bne_iff_ne, ne_eq, Bool.or_eq_true] at hsc
  obtain ⟨⟨⟨hk, hnc⟩, hfree⟩, hloc⟩ := hsc
  have clt : ∀ x c, D.cells.lookup x = some c → c < s.heap.objs.size := fun x c e => let ⟨_, q⟩ := S.f.clive x c e; Heap.lt_size q
  refine ⟨⟨fun b o e => S.hid2 hap b o (S.h.base b o e), fun b o e => old b o (hid2_some e).2.2, fun b o e => (S.h.heap b o e).at fun ob x => old b ob x, fun b o e => ?_, S.h.gens, S.h.os⟩,
    ⟨⟨_, hn, fun x v hx hv => ?_⟩, fun x hx => ?_, ?_, (S.h.fresh hC).1, fun x c e => ?_, fun x c e => ?_, fun x y c e1 e2 => S.f.cinj x y c (cloL_lookup e1) (cloL_lookup e2), fun h => nomatch h⟩⟩
  · unfold hid2; rw [if_pos (.inl (by rw [e]; rfl))]
  · unfold rhoIn at hv; rw [hx] at hv; simp at hv
  · have hx' := hx
    rw [relS_lookup] at hx'
    obtain ⟨k, h1, h2⟩ := Option.map_eq_some_iff.mp hx'
    have hkc : k ≠ .cell := hnc _ (lookup_mem_kind h1)
    split at h2
    · rename_i hc
      simp only [Bool.and_eq_true, beq_iff_eq] at hc
      obtain ⟨⟨rfl, _⟩, hcell⟩ := hc
      obtain ⟨c, vo, q1, ⟨o, q2, q3⟩, q4⟩ := S.f.cell x hcell
      refine ⟨c, vo, cloL_lookup_of (lookup_mem_kind h1) q1, ⟨o, old c o q2, q3⟩, fun v hv => q4 v ?_⟩
      unfold rhoIn at hv; rw [if_pos hx] at hv; exact hv
    · exact absurd h2 hkc
  · show hid2 H fp s.heap C = none
    cases e : hid2 H fp s.heap C with
    | none => rfl
    | some o => exact absurd (Heap.lt_size (hid2_some e).2.2) (Nat.not_lt.mpr hC)
  · exact ⟨(S.f.cH x c (cloL_lookup e)).1, Nat.ne_of_lt (Nat.lt_of_lt_of_le (clt x c (cloL_lookup e)) hC)⟩
  · obtain ⟨o, ho⟩ := S.f.clive x c (cloL_lookup e); exact ⟨o, old c o ho⟩

theorem ifs_run {ifs : List Expr} {K : Bool → AH → Prop} {A : Around} (r : Room A n) (S : StF G P sc D ρ H s) (h : IFS G n sc ifs K ρ H) :
    wpAny (model G.prog G.w) A (forIn ifs true fun c r => if r = true then do let ok ← isTrue c (D.env sc) (eval c (D.env sc)); pure (ForInStep.yield ok) else pure (ForInStep.yield r)) (EvB G P sc D ρ K) FF s := by
  match ifs, h with
  | [], h => exact wpAny_tests_nil ⟨H, S, h⟩
  | [c], h => exact wpAny_tests_one (h A P D s r S)

theorem guard1 {ρ' : Loc} {H' : AH} {fp gs : List Addr} {s₀ s₁ s₂ : Shared} (S : StF G (guardP (guardP P gs s₀.heap) fp s₁.heap) sc D ρ' H' s₂) (base : ∀ b o, G.base.get? b = some o → P b = some o) (hg : ∀ b ∈ gs, P b = none) (hf : ∀ b ∈ fp, P b = none) (hd : ∀ b ∈ fp, b ∉ gs) : StF G P sc D ρ' H' s₂ := by
  have base1 : ∀ b o, G.base.get? b = some o → guardP P gs s₀.heap b = some o := fun b o e => by
    unfold guardP; rw [if_neg fun hb => by have := base b o e; rw [hg b hb] at this; cases this]; exact base b o e
  exact (S.unguard base1 fun b hb => by unfold guardP; rw [if_neg (hd b hb)]; exact hf b hb).unguard base hg

set_option maxHeartbeats 1000000 in
inductive CompJ (G : Gx) (sc : Scope) (D : Dyn) (ρ : Loc) (H : AH) (s : Shared) (it : Addr) (fp : List Addr) (src : Src) (scope : Scope) (a : Nat) (C : Nat) (J : Nat → List AV → AH → Prop) (k : Nat) (s' : Shared) : Prop
  | mk : ∀ i ys H', (k = src.len - i + 1) → (i ≤ src.len) → (ItAt it fp i s'.heap src) → ((∀ b ∈ fp, H' b = none)) → (H' a = none) → (StF G (hid2 H fp s.heap) (relS scope sc) (compD D scope C) (rhoIn scope sc ρ) H' s') → ((∃ xs m, s'.heap.get? a = some { cls := .type "list", dict := none, data := .seq xs m, slots := #[] } ∧ VRs ys xs.toList)) → (J i ys H') → CompJ G sc D ρ H s it fp src scope a C J k s'
theorem comp_core {A : Around} {it : Addr} {fp : List Addr} {src : Src} {elt target iter : Expr} {ifs : List Expr} {scope : Scope} {pos : Pos} {Z : List AV → AH → Prop} (r : Room A n) (hsc : scopeOk scope sc = true)
    (hit : ItAt it fp 0 s.heap src) (hap : Apart fp P D H) (S : StF G P sc D ρ H s) (ok : CompOk G n sc elt target ifs scope Z ρ src H) {RR : Value → Addr → Result → Shared → Prop}
    (hRR : ∀ acc C H' ys s', H' acc = none → Z ys H' → (∃ m, s'.heap.Ns C m) → Apart [C] P D (H'.set acc (.list ys)) → StF G P sc D ρ (H'.set acc (.list ys)) s' → RR (.ref acc) C (.ok .next) s') :
    wpAny (model G.prog G.w) A (newList []) (fun acc s₃ => wpAny (model G.prog G.w) A (newFunctionEnv scope mainGlobals (cloL D scope.names []) [] D.qual none .none (some (D.env sc))) (fun cenv s₄ =>
      codeAny (model G.prog G.w) A (.compStart (.ListComp elt [⟨target, iter, ifs, 0⟩] scope pos) 0 (.ref it) acc { cenv with scope := relabel scope (D.env sc) }) (RR acc cenv.locals) s₄) FF s₃) FF s := by
  have hsc' := hsc
  unfold scopeOk at hsc'
  simp only [Bool.and_eq_true, beq_iff_eq, List.all_eq_true, bne_iff_ne, ne_eq, Bool.or_eq_true] at hsc'
  obtain ⟨⟨⟨hk, hnc⟩, _⟩, _⟩ := hsc'
  refine wpAny_newObj_type (wpAny_newFunctionEnv (fun x hx => hnc x hx) (by intro y hy; simp at hy) (fun h₁ hns₁ hsb₁ => ?_) hk)
  dsimp only at hns₁ hsb₁ ⊢
  generalize hH2 : s.heap.push { cls := .type "list", dict := none, data := .seq ([] : List Value).toArray } = H2 at hns₁ hsb₁ ⊢
  have hC : H2.objs.size = s.heap.objs.size + 1 := by rw [← hH2, Heap.size_push]
  have old : ∀ b o, s.heap.get? b = some o → h₁.get? b = some o := fun b o e => hsb₁.extBut b o (by rw [hC]; exact Nat.ne_of_lt (Nat.lt_succ_of_lt (Heap.lt_size e))) (Heap.get?_push_of_some _ (hH2 ▸ Heap.get?_push_of_some _ e))
  have hacc : h₁.get? s.heap.objs.size = some { cls := .type "list", dict := none, data := .seq #[] 0, slots := #[] } :=
    hsb₁.extBut _ _ (by rw [hC]; exact Nat.ne_of_lt (Nat.lt_succ_self _)) (Heap.get?_push_of_some _ (hH2 ▸ Heap.get?_push_size _ rfl))
  have S₄ := comp_start (scope := scope) (C := H2.objs.size) (t := s.toks + ([] : List (Str × Value)).length) hsc S hap (by rw [hC]; exact Nat.le_succ _) old hns₁
  have frA := S.h.fresh (Nat.le_refl s.heap.objs.size)
  have frC := S.h.fresh (a := H2.objs.size) (by rw [hC]; exact Nat.le_succ _)
  have aC : s.heap.objs.size ≠ H2.objs.size := by rw [hC]; exact Nat.ne_of_lt (Nat.lt_succ_self _)
  have clt : ∀ x c, D.cells.lookup x = some c → c < s.heap.objs.size := fun x c e => let ⟨_, q⟩ := S.f.clive x c e; Heap.lt_size q
  have Llt := S.f.Llt
  have fplt : ∀ b ∈ fp, b < s.heap.objs.size := fun b hb => let ⟨o, ho⟩ := hit.live b hb; Heap.lt_size ho
  have P'none : ∀ b, s.heap.objs.size ≤ b → hid2 H fp s.heap b = none := fun b hb => by
    cases e : hid2 H fp s.heap b with
    | none => rfl
    | some o => exact absurd (Heap.lt_size (hid2_some e).2.2) (Nat.not_lt.mpr hb)
  have P'fp : ∀ b ∈ fp, hid2 H fp s.heap b = none := fun b hb => by unfold hid2; rw [if_pos (.inr hb)]
  have base' := S₄.h.base
  have cne : ∀ b, (s.heap.objs.size ≤ b ∨ b ∈ fp) → ∀ x c, (compD D scope H2.objs.size).cells.lookup x = some c → c ≠ b := fun b hb x c e => by
    have e' := cloL_lookup (D := D) (l := scope.names) e
    rcases hb with hb | hb
    · exact Nat.ne_of_lt (Nat.lt_of_lt_of_le (clt x c e') hb)
    · exact (hap b hb).2.2.2 x c e'
  generalize ha : s.heap.objs.size = a at *
  generalize hCC : H2.objs.size = C at *
  obtain ⟨hfit, J, j0, turn, done⟩ := ok
  have hitS : ItAt it fp 0 h₁ src := hit.at fun b _ o e => old b o e
  have loop : ∀ s₃ : Shared, s₃ = { s with heap := h₁, toks := s.toks + ([] : List (Str × Value)).length } →
      codeAny (model G.prog G.w) A (.compLoop (.ListComp elt [⟨target, iter, ifs, 0⟩] scope pos) 0 (.ref it) (.ref a) ((compD D scope C).env (relS scope sc))) (RR (.ref a) C) s₃ := by
    rintro s₃ rfl
    refine compLoop_any (CompJ G sc D ρ H s it fp src scope a C J) ?_ _ ⟨0, [], H, rfl, Nat.zero_le _, hitS, fun b hb => (hap b hb).2.1, frA.1, S₄, ⟨#[], 0, hacc, VRs.nil⟩, j0⟩
    rintro k s' ⟨i, ys, H', rfl, hi, hit', hfpH, hHa, S', ⟨xs, m, hx, rx⟩, hJ⟩
    have hapf : Apart fp (hid2 H fp s.heap) (compD D scope C) H' := fun b hb => ⟨P'fp b hb, hfpH b hb, Nat.ne_of_lt (Nat.lt_of_lt_of_le (fplt b hb) (by rw [hC]; exact Nat.le_succ _)), cne b (.inr hb)⟩
    by_cases hlt : i < src.len
    · obtain ⟨hlive, hys, hitem⟩ := turn i ys H' hlt hJ
      have hapa : Apart [a] (hid2 H fp s.heap) (compD D scope C) H' := fun b hb => by
        simp at hb; subst hb; exact ⟨P'none b (Nat.le_refl _), hHa, aC, cne b (.inl (Nat.le_refl _))⟩
      have Sa := S'.guard hapa
      have afp : ∀ b ∈ fp, b ∉ [a] := fun b hb q => by simp at q; subst q; exact Nat.lt_irrefl _ (fplt b hb)
      have hapf1 : Apart fp (guardP (hid2 H fp s.heap) [a] s'.heap) (compD D scope C) H' := fun b hb => ⟨by unfold guardP; rw [if_neg (afp b hb)]; exact P'fp b hb, hfpH b hb, (hapf b hb).2.2⟩
      refine wp_mono (draw (t := target) (K := fun v s₁ => wpAny (model G.prog G.w) A (assign target ((compD D scope C).env (relS scope sc)) v) (fun _ s₂ =>
          wpAny (model G.prog G.w) A (forIn ifs true fun c r => if r = true then do let ok ← isTrue c ((compD D scope C).env (relS scope sc)) (eval c ((compD D scope C).env (relS scope sc))); pure (ForInStep.yield ok) else pure (ForInStep.yield r)) (fun ok s₃ =>
            if ok = true then wpAny (model G.prog G.w) A (eval elt ((compD D scope C).env (relS scope sc))) (fun x s₄ => wpAny (model G.prog G.w) A (call (.builtin "list.append") [.ref a, x]) (fun _ s₅ => ∃ q, q < src.len - i + 1 ∧
              CompJ G sc D ρ H s it fp src scope a C J q s₅) FF s₄) FF s₃
            else ∃ q, q < src.len - i + 1 ∧ CompJ G sc D ρ H s it fp src scope a C J q s₃) FF s₂) FF s₁) (Z := fun _ => False) r hit' hapf1 hlive hfit Sa (fun _ => ⟨_, hitem, fun av H2 v s₁ kk hv S₁ hit1 hfp1 => ?_⟩) fun h => absurd hlt h) ?_
      · have hapf2 : Apart fp (guardP (hid2 H fp s.heap) [a] s'.heap) (compD D scope C) H2 := fun b hb => ⟨(hapf1 b hb).1, hfp1 b hb, (hapf1 b hb).2.2⟩
        have Sg := S₁.guard hapf2
        -- behind any run under the two guards
        have back : ∀ {ρ' : Loc} {H5 : AH} {s₄ : Shared}, StF G (guardP (guardP (hid2 H fp s.heap) [a] s'.heap) fp s₁.heap) (relS scope sc) (compD D scope C) ρ' H5 s₄ →
            StF G (hid2 H fp s.heap) (relS scope sc) (compD D scope C) ρ' H5 s₄ ∧ ItAt it fp (i + 1) s₄.heap src ∧ (∀ b ∈ fp, H5 b = none) ∧ H5 a = none ∧ s₄.heap.get? a = some { cls := .type "list", dict := none, data := .seq xs m, slots := #[] } := by
          intro ρ' H5 s₄ S₄
          have hga : guardP (guardP (hid2 H fp s.heap) [a] s'.heap) fp s₁.heap a = some { cls := .type "list", dict := none, data := .seq xs m, slots := #[] } := by
            unfold guardP
            rw [if_neg fun q => Nat.lt_irrefl _ (fplt a q), if_pos (by simp)]; exact hx
          refine ⟨guard1 S₄ base' (fun b hb => by simp at hb; subst hb; exact P'none b (Nat.le_refl _)) P'fp afp, hit1.at fun b hb o e => (S₄.guarded hb e).1, fun b hb => ?_, ?_, S₄.h.keep _ _ hga⟩
          · obtain ⟨o, ho⟩ := hit1.live b hb; exact (S₄.guarded hb ho).2.1
          · cases e : H5 a with
            | none => rfl
            | some o => have := S₄.h.apart a o e; rw [hga] at this; cases this
        refine wp_mono (kk A _ (compD D scope C) s₁ v r (fun h => nomatch h) Sg hv) fun _ s₂ ⟨ρ', H'', S₂', hle, hifs⟩ => wp_mono (ifs_run r S₂' hifs) ?_
        rintro ok s₃ ⟨H3, S₃, q⟩
        cases ok with
        | false =>
          obtain ⟨H5, le5, hJ5⟩ := q
          obtain ⟨b1, b2, b3, b4, b5⟩ := back (S₃.sub le5)
          exact ⟨_, by (first | lia | omega), i + 1, ys, H5, rfl, hlt, b2, b3, b4, b1.forget hle, ⟨xs, m, b5, rx⟩, hJ5⟩
        | true =>
          refine wp_mono (q A _ _ s₃ r S₃) fun x s₄ ⟨v', H4, hv', S₄, H5, le5, hJ5⟩ => ?_
          obtain ⟨b1, b2, b3, b4, b5⟩ := back (S₄.sub le5)
          have ex : ys.length = xs.size := by simpa using rx.1
          refine wpAny_list_append_plain (hsz := by rw [sizeLine_eq]; (first | lia | omega)) ⟨m, b5⟩ fun h5 ⟨m', hl5⟩ hs5 => ?_
          refine ⟨_, by (first | lia | omega), i + 1, ys ++ [v'], H5, rfl, hlt, b2.at fun b hb o e => hs5.extBut b o (Nat.ne_of_lt (fplt b hb)) e, b3, b4, (b1.forget hle).other b4 (P'none a (Nat.le_refl _)) aC (cne a (.inl (Nat.le_refl _))) hs5.extBut, ⟨_, m', hl5, ?_⟩, hJ5⟩
          rw [Array.toList_push]
          exact rx.append (VRs.cons hv' VRs.nil)
      · rintro q s₁ hq
        cases q with
        | none => exact hq.elim
        | some v => exact hq
    · have hil : i = src.len := by (first | lia | omega)
      subst hil
      obtain ⟨hlive, hZ⟩ := done ys H' hJ
      have hapa : Apart [a] (hid2 H fp s.heap) (compD D scope C) H' := fun b hb => by
        simp at hb; subst hb; exact ⟨P'none b (Nat.le_refl _), hHa, aC, cne b (.inl (Nat.le_refl _))⟩
      have afp : ∀ b ∈ fp, b ∉ [a] := fun b hb q => by simp at q; subst q; exact Nat.lt_irrefl _ (fplt b hb)
      have hapf1 : Apart fp (guardP (hid2 H fp s.heap) [a] s'.heap) (compD D scope C) H' := fun b hb => ⟨by unfold guardP; rw [if_neg (afp b hb)]; exact P'fp b hb, hfpH b hb, (hapf b hb).2.2⟩
      refine wp_mono (draw (t := target) (K := fun _ _ => False) (Z := fun s₁ => StF G (guardP (hid2 H fp s.heap) [a] s'.heap) (relS scope sc) (compD D scope C) (rhoIn scope sc ρ) H' s₁) r hit' hapf1 hlive hfit (S'.guard hapa) (fun h => absurd h hlt) fun _ s₁ S₁ => S₁) ?_
      rintro q s₁ h1
      cases q with
      | some v => exact wp_mono h1 fun _ _ e => e.elim
      | none =>
        have g := h1.guarded (b := a) (by simp) hx
        have S₁ := h1.unguard base' (fun b hb => by simp at hb; subst hb; exact P'none b (Nat.le_refl _))
        have So := S.outer hap S₁
        have Sj := So.join (a := a) (o := .list ys) hHa frA.2 (Nat.ne_of_gt Llt) (fun x c e => Nat.ne_of_lt (clt x c e)) ⟨xs, m, g.1, rx⟩
        refine hRR a C H' ys s₁ hHa hZ ?_ (fun b hb => ?_) Sj
        · obtain ⟨mm, hm, _⟩ := S₁.f.ns; exact ⟨mm, hm⟩
        · simp at hb; subst hb
          exact ⟨frC.2, (AH.set_ne _ _ aC.symm).trans S₁.f.LH, Nat.ne_of_gt (Nat.lt_of_lt_of_le Llt (by rw [hC]; exact Nat.le_succ _)), fun x c e => Nat.ne_of_lt (Nat.lt_of_lt_of_le (clt x c e) (by rw [hC]; exact Nat.le_succ _))⟩
  exact codeAny_compStart_list (loop _ rfl) (wp_any (it_self hitS (loop _ rfl)))
end


section
variable {G : Gx} {sc : Scope} {ρ : Loc} {H : AH} {n : Nat}
theorem comp_run {elt target iter : Expr} {ifs : List Expr} {scope : Scope} {pos : Pos} {Z : List AV → AH → Prop} {A : Around} {P : Hid} {D : Dyn} {s : Shared} {use : Option (Value → Sem Unit)} {Q : Value → Shared → Prop}
    (r : Room A n) (S : StF G P sc D ρ H s) (hsc : scopeOk scope sc = true) (hs : ∀ (D : Dyn) x, foldedSetIterable iter (D.env sc) x = pure x)
    (h : IT G n sc iter (fun src H₁ => CompOk G n sc elt target ifs scope Z ρ src H₁) ρ H)
    (hRR : ∀ acc C H' ys s', H' acc = none → Z ys H' → (∃ m, s'.heap.Ns C m) → Apart [C] P D (H'.set acc (.list ys)) → StF G P sc D ρ (H'.set acc (.list ys)) s' → compPost (model G.prog G.w) A FF use Q (.ref acc) C (.ok .next) s') :
    wpAny (model G.prog G.w) A (comprehension (.ListComp elt [⟨target, iter, ifs, 0⟩] scope pos) scope (D.env sc) (firstIterPos [⟨target, iter, ifs, 0⟩] pos) (newList []) false (eval iter (D.env sc)) use) Q FF s := by
  have hsc' := hsc
  unfold scopeOk at hsc'
  simp only [Bool.and_eq_true, beq_iff_eq, List.all_eq_true, bne_iff_ne, ne_eq, Bool.or_eq_true] at hsc'
  obtain ⟨⟨⟨hk, hnc⟩, hfree⟩, hloc⟩ := hsc'
  refine wpAny_comprehension_free (use := use) rfl (hs D) (closure_eq D sc scope fun x hx hf => ?_) hk (fun x hx hl => ?_) (wp_mono (h A P D s r S) fun x s₁ h₁ => wp_mono h₁ fun v s₂ ⟨it, fp, src, H₁, e, hit, hap, S₂, ok⟩ => ?_)
  · rcases hfree x hx with q | ⟨_, q⟩
    · exact absurd hf q
    · obtain ⟨c, vo, q1, _⟩ := S.f.cell x.1 q; rw [q1]; rfl
  · rcases hloc x hx with q | q
    · exact absurd hl q
    · exact q
  · subst e
    exact comp_core r hsc hit hap S₂ ok (RR := fun acc C => compPost (model G.prog G.w) A FF use Q acc C) hRR

theorem EV.comp {elt target iter : Expr} {ifs : List Expr} {scope : Scope} {pos : Pos} {Q : AV → AH → Prop} (hsc : scopeOk scope sc = true) (hs : ∀ (D : Dyn) x, foldedSetIterable iter (D.env sc) x = pure x)
    (h : IT G n sc iter (fun src H₁ => CompOk G n sc elt target ifs scope (fun ys H' => ∀ a, H' a = none → Q (.ref a) (H'.set a (.list ys))) ρ src H₁) ρ H) : EV G n sc (.ListComp elt [⟨target, iter, ifs, 0⟩] scope pos) Q ρ H := by
  intro A P D s r S
  rw [eval_ListComp]
  refine comp_run (use := none) r S hsc hs h fun acc C H' ys s' h1 h2 h3 h4 S' => ?_
  obtain ⟨m, hm⟩ := h3
  exact ⟨m, hm, fun h' hs' => ⟨_, _, .ref _, S'.others h4 fun b o hb e => hs'.extBut b o (fun q => hb (by simp [q])) e, h2 _ h1⟩⟩
/-- the same, its value stored into a local name at once -/
theorem SX.comp {elt target iter : Expr} {ifs : List Expr} {scope : Scope} {pos p p' : Pos} {y : Str} {Q : AF → Loc → AH → Prop} (hsc : scopeOk scope sc = true) (hs : ∀ (D : Dyn) x, foldedSetIterable iter (D.env sc) x = pure x)
    (hw : ∀ D : Dyn, swapsWith (.ListComp elt [⟨target, iter, ifs, 0⟩] scope pos) (some (.Name y p')) p.line (D.env sc) = pure true) (hk : sc.kind = .function) (hl : sc.names.lookup y = some .local)
    (h : IT G n sc iter (fun src H₁ => CompOk G n sc elt target ifs scope (fun ys H' => ∀ a, H' a = none → Q .next (ρ.set y (.ref a)) (H'.set a (.list ys))) ρ src H₁) ρ H) :
    SX G n sc (.Assign [.Name y p'] (.ListComp elt [⟨target, iter, ifs, 0⟩] scope pos) p) Q ρ H := by
  intro A P D s r f S
  rw [exec_Assign_Name_used _ _ _ _ (hw D)]
  refine wpAny_bind (wpAny_standAt (wpAny_bind ?_))
  show wpAny _ A (do let _ ← comprehension (.ListComp elt [⟨target, iter, ifs, 0⟩] scope pos) scope (D.env sc) _ (newList []) false (eval iter (D.env sc)) (some (assign (.Name y p') (D.env sc)))) _ _ s
  refine wpAny_bind (comp_run (use := some (assign (.Name y p') (D.env sc))) r S hsc hs h fun acc C H' ys s' h1 h2 h3 h4 S' => ?_)
  obtain ⟨m, hm⟩ := h3
  obtain ⟨mo, hno, _⟩ := S'.f.ns
  refine wpAny_assign_Name (wpAny_storeName_local (env := D.env sc) hl hno (fun h' hn' hs' => ?_) (by show (sc.kind == .class || (sc.kind == .module && D.L != mainGlobals)) = false; rw [hk]; rfl))
  have S2 := S'.store hl (.ref acc) hno hn' hs' (s'.toks + 1)
  refine ⟨m, hm.sameBut hs' (h4 C (by simp)).2.2.1, fun h'' hs'' => wpAny_pure (wpAny_pure ⟨.next, _, _, .next, ?_, h2 acc h1⟩)⟩
  exact S2.others h4 fun b o hb e => hs''.extBut b o (fun q => hb (by simp [q])) e
end


/-- a def of the top -/
structure FnAt (G : Gx) (a : Addr) (ps : List Str) (body : List Stmt) (scope : Scope) : Prop where
  at_ : ∃ o fd, G.base.get? a = some o ∧ o.data = .func fd ∧ fd.body = .stmts body ∧ fd.scope = scope ∧ fd.globals = mainGlobals ∧ fd.builtins = builtinsNs ∧ fd.closure = [] ∧ G.base.CodeRec fd.code fd.qualname ∧
    ∀ xs : List Value, xs.length = ps.length → bindArgs fd ⟨xs, []⟩ = pure (ps.zip xs)
noncomputable def fnScopeOk (ps : List Str) (scope : Scope) : Bool :=
  scope.kind == .function && !scope.isCoroutine && !scope.isGenerator && ps.all fun x => scope.names.lookup x == some .local || scope.names.lookup x == some .cell
noncomputable def rho0 (ps : List Str) (vs : List AV) : Loc := fun x => (ps.zip vs).reverse.lookup x

/-- a call of a def, by its address -/
noncomputable def CL (G : Gx) (n : Nat) (a : Addr) (vs : List AV) (Q : AV → AH → Prop) (H : AH) : Prop :=
  ∀ A P s xs, Room A n → StH G P H s → VRs vs xs → wpAny (model G.prog G.w) A (call (.ref a) xs) (fun v s' => ∃ av H', VR av v ∧ StH G P H' s' ∧ Q av H') FF s
theorem CL.mono {G : Gx} {n : Nat} {a : Addr} {vs : List AV} {Q Q' : AV → AH → Prop} {H : AH} (h : CL G n a vs Q H) (k : ∀ v H', Q v H' → Q' v H') : CL G n a vs Q' H :=
  fun A P s xs r S hv => wp_mono (h A P s xs r S hv) fun _ _ ⟨av, H', a, b, c⟩ => ⟨av, H', a, b, k _ _ c⟩

theorem zip_fst {α β : Type} : ∀ (ps : List Str) (l : List α) (m : List β), l.length = m.length → (ps.zip l).map (·.1) = (ps.zip m).map (·.1)
  | [], _, _, _ => rfl
  | _ :: _, [], [], _ => rfl
  | _ :: _, [], _ :: _, h => by simp at h
  | _ :: _, _ :: _, [], h => by simp at h
  | p :: ps, a :: l, b :: m, h => by simp [zip_fst ps l m (by simpa using h)]
theorem zip_lookup {vs : List AV} {xs : List Value} (h : VRs vs xs) : ∀ (ps : List Str) (x : Str) (v : AV), (ps.zip vs).reverse.lookup x = some v → ∃ w, (ps.zip xs).reverse.lookup x = some w ∧ VR v w := by
  induction vs generalizing xs with
  | nil => intro ps x v e; simp at e
  | cons a r ih =>
    obtain ⟨y, q, rfl, h1, h2⟩ := h.cons_inv
    intro ps x v e
    cases ps with
    | nil => simp at e
    | cons p ps =>
      rw [List.zip_cons_cons, List.reverse_cons, List.lookup_append] at e ⊢
      cases e1 : (ps.zip r).reverse.lookup x with
      | some v' =>
        rw [e1] at e; simp at e; subst e
        obtain ⟨w, hw, hr⟩ := ih h2 ps x v' e1
        exact ⟨w, by rw [hw]; rfl, hr⟩
      | none =>
        rw [e1] at e
        have e2 : (ps.zip q).reverse.lookup x = none := by
          have hl : ∀ (ps : List Str) (l : List AV) (m : List Value), l.length = m.length → (ps.zip l).reverse.lookup x = none → (ps.zip m).reverse.lookup x = none := by
            intro ps l m hlm
            have hk : (ps.zip l).map (·.1) = (ps.zip m).map (·.1) := zip_fst ps l m hlm
            intro hn
            have key : ∀ {β γ : Type} (a : List (Str × β)) (b : List (Str × γ)), a.map (·.1) = b.map (·.1) → a.lookup x = none → b.lookup x = none := by
              intro β γ a
              induction a with
              | nil => intro b hb _; cases b with | nil => rfl | cons _ _ => simp at hb
              | cons p t iht =>
                intro b hb hn
                cases b with
                | nil => rfl
                | cons p' t' =>
                  simp at hb
                  obtain ⟨k1, v1⟩ := p; obtain ⟨k2, v2⟩ := p'
                  simp at hb
                  obtain ⟨rfl, hb⟩ := hb
                  rw [List.lookup_cons] at hn ⊢
                  cases hx : x == k1 with
                  | true => rw [hx] at hn; cases hn
                  | false => rw [hx] at hn; exact iht t' hb hn
            exact key _ _ (by rw [List.map_reverse, List.map_reverse, hk]) hn
          exact hl ps r q h2.1 e1
        rw [e2]
        simp only [Option.none_or, List.lookup_cons, List.lookup_nil] at e ⊢
        cases hx : x == p with
        | true => rw [hx] at e; cases e; exact ⟨y, rfl, h1⟩
        | false => rw [hx] at e; cases e

theorem bindL_eq (kd : Str → Option NameKind) (x : Str) (hx : kd x = some .local) : ∀ (binds : List (Str × Value)) (m : Str → Option Value), bindL kd binds m x = (binds.reverse.lookup x).or (m x)
  | [], m => by simp [bindL]
  | (k, v) :: r, m => by
    rw [bindL, bindL_eq kd x hx r, List.reverse_cons, List.lookup_append, Option.or_assoc]
    congr 1
    by_cases hk : x = k
    · subst hk; simp [hx]
    · have hb : (x == k) = false := by simpa using hk
      simp only [List.lookup_cons, hb, List.lookup_nil, Option.none_or]
      split
      · simp [hk]
      · rfl
theorem bindC_eq (kd : Str → Option NameKind) (x : Str) (hx : kd x ≠ some .local) : ∀ (binds : List (Str × Value)) (m : Str → Option Value), bindC kd binds m x = (binds.reverse.lookup x).or (m x)
  | [], m => by simp [bindC]
  | (k, v) :: r, m => by
    rw [bindC, bindC_eq kd x hx r, List.reverse_cons, List.lookup_append, Option.or_assoc]
    congr 1
    by_cases hk : x = k
    · subst hk; simp [hx]
    · have hb : (x == k) = false := by simpa using hk
      simp only [List.lookup_cons, hb, List.lookup_nil, Option.none_or]
      split
      · rfl
      · simp [hk]
theorem cellsFrom_keep : ∀ (names : List (Str × NameKind)) (k : Nat) (acc : List (Str × Addr)) (p : Str × Addr), p ∈ acc → p ∈ cellsFrom k names acc
  | [], _, _, _, h => h
  | (nm, kd) :: r, k, acc, p, h => by
    unfold cellsFrom
    split
    · exact cellsFrom_keep r _ _ p (List.mem_cons_of_mem _ h)
    · exact cellsFrom_keep r _ _ p h
theorem cellsFrom_has : ∀ (names : List (Str × NameKind)) (k : Nat) (acc : List (Str × Addr)) (x : Str), (x, .cell) ∈ names → ∃ c, (x, c) ∈ cellsFrom k names acc
  | [], _, _, _, h => (nomatch h)
  | (nm, kd) :: r, k, acc, x, h => by
    unfold cellsFrom
    rcases List.mem_cons.mp h with e | h
    · cases e; simp only [beq_self_eq_true, if_true]; exact ⟨k, cellsFrom_keep r _ _ _ List.mem_cons_self⟩
    · split
      · exact cellsFrom_has r _ _ x h
      · exact cellsFrom_has r _ _ x h
theorem lookup_isSome_of_mem {l : List (Str × Addr)} {x : Str} {c : Addr} (h : (x, c) ∈ l) : (l.lookup x).isSome = true := by
  induction l with
  | nil => cases h
  | cons p r ih =>
    obtain ⟨k, d⟩ := p
    rw [List.lookup_cons]
    cases hx : x == k with
    | true => rfl
    | false =>
      rcases List.mem_cons.mp h with e | h
      · cases e; simp at hx
      · exact ih h

theorem Room.deeper {A : Around} {n : Nat} (r : Room A (n + 1)) (env : Env) : Room (A.deeper env) n := by
  refine ⟨r.handled, ?_, ?_⟩
  · have := r.depth; show A.depth + 1 + 8 * n + 16 < recursionLimit; (first | lia | omega)
  · have := r.units; show A.units + 3 + 64 * n + 256 < cLine; (first | lia | omega)
theorem Room.le {A : Around} {n m : Nat} (r : Room A n) (h : m ≤ n) : Room A m := by
  refine ⟨r.handled, ?_, ?_⟩
  · have := r.depth; (first | lia | omega)
  · have := r.units; (first | lia | omega)
theorem Room.under1 {A : Around} {n : Nat} (r : Room A (n + 1)) {c : Code} (hd : c.weight ≤ 4) (hu : c.cUnits ≤ 40) : Room (A.under c) n := by
  refine ⟨r.handled, ?_, ?_⟩
  · have := r.depth; show A.depth + c.weight + 8 * n + 16 < recursionLimit; (first | lia | omega)
  · have := r.units; show A.units + c.cUnits + 64 * n + 256 < cLine; (first | lia | omega)

section
variable {G : Gx} {n : Nat} {H : AH} {Q : AV → AH → Prop}
theorem code_fn {a : Addr} {ps : List Str} {body : List Stmt} {scope : Scope} {vs : List AV} {A : Around} {P : Hid} {s : Shared} {xs : List Value} {R : Result → Shared → Prop} (hf : FnAt G a ps body scope) (hs : fnScopeOk ps scope = true) (hn : vs.length = ps.length) (r : Room A (n + 1)) (S : StH G P H s) (hv : VRs vs xs)
    (h : SXs G n scope body (fun f ρ' H' => ∃ v, (f = .ret v ∨ (f = .next ∧ v = .none)) ∧ ∃ H'', H''.le H' ∧ Q v H'') (rho0 ps vs) H)
    (hR : ∀ v x H' s', VR v x → StH G P H' s' → Q v H' → R (.ok (.ret x)) s') : codeAny (model G.prog G.w) A (.call (.ref a) ⟨xs, []⟩) R s := by
  obtain ⟨o, fd, ho, hd, hb, rfl, hg, hbl, hcl, hcd, hbind⟩ := hf.at_
  unfold fnScopeOk at hs
  simp only [Bool.and_eq_true, beq_iff_eq, Bool.not_eq_true', List.all_eq_true, Bool.or_eq_true] at hs
  obtain ⟨⟨⟨hk, hco⟩, hgen⟩, hps⟩ := hs
  have keep : ∀ b o, G.base.get? b = some o → s.heap.get? b = some o := fun b o e => S.baseIn e
  have hx : xs.length = ps.length := hv.1 ▸ hn
  have hkind : ∀ x ∈ ps.zip xs, fd.scope.names.lookup x.1 = some .local ∨ (fd.scope.names.lookup x.1 = some .cell ∧ ((cellsFrom (s.heap.objs.size + 1) fd.scope.names []).lookup x.1).isSome = true) := fun x hx => by
    rcases hps x.1 (List.of_mem_zip hx).1 with e | e
    · exact .inl e
    · obtain ⟨c, hc⟩ := cellsFrom_has fd.scope.names (s.heap.objs.size + 1) [] x.1 (lookup_mem_kind e)
      exact .inr ⟨e, lookup_isSome_of_mem hc⟩
  refine codeAny_call_cells (by have := r.depth; (first | lia | omega)) (keep _ _ ho) hd (G.nolimit.keeps keep) (hcd.keeps keep) hb (hbind xs hx) hcl hkind (fun s₁ ic => ?_) hco hgen hk
  have eenv : callEnvC fd s.heap.objs.size a = Dyn.env ⟨s.heap.objs.size, cellsFrom (s.heap.objs.size + 1) fd.scope.names [], fd.qualname ++ ".<locals>.", some a, fd.code, some s.heap.objs.size⟩ fd.scope := by
    unfold callEnvC newEnv Dyn.env; rw [hg, hbl]
  rw [eenv] at ic ⊢
  have fr := S.fresh (Nat.le_refl s.heap.objs.size)
  have hsame := ic.toInCall.same
  have hkp := ic.toInCall.keep
  have S₁ : StF G P fd.scope ⟨s.heap.objs.size, cellsFrom (s.heap.objs.size + 1) fd.scope.names [], fd.qualname ++ ".<locals>.", some a, fd.code, some s.heap.objs.size⟩ (rho0 ps vs) H s₁ := by
    obtain ⟨h', tk, rfl⟩ := hsame
    refine ⟨(S.ext hkp).toks tk, ⟨⟨_, ic.toInCall.ns, fun x v hx hv' => ?_⟩, fun x hx => ?_, fr.2, fr.1, fun x c e => ?_, fun x c e => ?_, fun x y c e1 e2 => name_of_addr ic.apart (mem_of_lookup e1) (mem_of_lookup e2), fun _ x c e => ?_⟩⟩
    · obtain ⟨w, hw, hr⟩ := zip_lookup hv ps x v hv'
      exact ⟨w, by rw [bindL_eq _ x hx]; rw [hw]; rfl, hr⟩
    · obtain ⟨c, hc⟩ := cellsFrom_has fd.scope.names (s.heap.objs.size + 1) [] x (lookup_mem_kind hx)
      obtain ⟨c', hc'⟩ := Option.isSome_iff_exists.mp (lookup_isSome_of_mem hc)
      refine ⟨c', _, hc', ic.cell x c' hc', fun v hv' => ?_⟩
      obtain ⟨w, hw, hr⟩ := zip_lookup hv ps x v hv'
      exact ⟨w, by rw [bindC_eq _ x (by show fd.scope.names.lookup x ≠ _; rw [hx]; decide)]; rw [hw]; rfl, hr⟩
    · have := ic.above x c (mem_of_lookup e)
      exact ⟨(S.fresh (Nat.le_of_lt this)).1, Nat.ne_of_gt this⟩
    · obtain ⟨o, ho, _⟩ := ic.cell x c e; exact ⟨o, ho⟩
    · exact (S.fresh (Nat.le_of_lt (ic.above x c (mem_of_lookup e)))).2
  refine wp_any (wp_mono (h _ P _ s₁ (r.deeper _) rfl S₁) ?_)
  rintro fl s₂ ⟨af, ρ', H', hfr, S₂, v, hvf, H'', le, q⟩
  have S₃ := (S₂.sub le).h
  rcases hvf with rfl | ⟨rfl, rfl⟩
  · cases hfr with | ret hx => exact hR _ _ _ _ hx S₃ q
  · cases hfr; exact hR _ _ _ _ .none S₃ q
theorem CL.def {a : Addr} {ps : List Str} {body : List Stmt} {scope : Scope} {vs : List AV} (hf : FnAt G a ps body scope) (hs : fnScopeOk ps scope = true) (hn : vs.length = ps.length)
    (h : SXs G n scope body (fun f ρ' H' => ∃ v, (f = .ret v ∨ (f = .next ∧ v = .none)) ∧ ∃ H'', H''.le H' ∧ Q v H'') (rho0 ps vs) H) : CL G (n + 1) a vs Q H :=
  fun A P s xs r S hv => wpAny_call (code_fn hf hs hn r S hv h fun v x H' s' hx S' q => ⟨v, H', hx, S', q⟩)

variable {sc : Scope} {ρ : Loc}
theorem EV.call {x : Str} {p pos : Pos} {a : Addr} {ps : List Str} {body : List Stmt} {scope : Scope} {e : Expr} {es : List Expr} (hk : sc.kind = .function) (hl : sc.names.lookup x = some .globalImplicit) (hd : (x == ("__debug__" : Str)) = false)
    (hg : G.mg x = some (.ref a)) (hf : FnAt G a ps body scope) (hs : noStar (e :: es) = true) (h : ES G n sc (e :: es) (fun vs H₁ => CL G n a vs Q H₁) ρ H) : EV G n sc (.Call (.Name x p) (e :: es) [] pos) Q ρ H := by
  intro A P D s r S
  obtain ⟨o, fd, ho, hdt, _⟩ := hf.at_
  refine wpAny_Call_NameR (Name_function_global (env := D.env sc) hk hl (loadGlobal_global (ns_base S.h G.g) hg ?_) hd)
  refine callWith_def (o := o) hdt (wp_mono (h A P D s pos r S) fun xs s₁ ⟨vs, H₁, hv, S₁, h₁⟩ => ⟨S₁.h.baseIn ho, ?_⟩) (star_cons hs _)
  exact wp_mono (h₁ A _ s₁ xs r S₁.h.hide hv) fun v s₂ ⟨av, H₂, hv2, S₂, q⟩ => ⟨av, H₂, hv2, S₁.back S₂, q⟩
end


section
variable {G : Gx} {n : Nat} {sc : Scope} {ρ : Loc} {H : AH} {Q : AV → AH → Prop}

theorem VRs.push {vs : List AV} {xs : Array Value} (h : VRs vs xs.toList) {v : AV} {x : Value} (k : VR v x) : VRs (vs ++ [v]) (xs.push x).toList := by
  rw [Array.toList_push]; exact h.append (VRs.cons k VRs.nil)
theorem VRs.erase {vs : List AV} {xs : List Value} (h : VRs vs xs) (i : Nat) : VRs (vs.eraseIdx i) (xs.eraseIdx i) := by
  refine ⟨by simp [List.length_eraseIdx, h.1], fun j a b ha hb => ?_⟩
  rw [List.getElem?_eraseIdx] at ha hb
  split at ha
  · rename_i hj; rw [if_pos hj] at hb; exact h.2 _ _ _ ha hb
  · rename_i hj; rw [if_neg hj] at hb; exact h.2 _ _ _ ha hb

theorem EV.append {o e : Expr} {name : Str} {ap pos : Pos} (hn : name = "append") (hb : ∀ env whole, attributeBase o name env whole = whole) (hl : (ap.endLine == pos.line) = true) (hs : noStar [e] = true)
    (h : EV G n sc o (fun a H₁ => ∃ l us, a = .ref l ∧ H₁ l = some (.list us) ∧ EV G n sc e (fun v H₂ => ∃ vs, H₂ l = some (.list vs) ∧ vs.length ≤ sizeLine ∧ Q .none (H₂.set l (.list (vs ++ [v])))) ρ H₁) ρ H) :
    EV G n sc (.Call (.Attribute o name ap) [e] [] pos) Q ρ H := by
  subst hn
  intro A P D s ro S
  have ht : backTo pos (starEach [e] (D.env sc)) = [(false, eval e (D.env sc))] := by rw [star_cons hs]; rfl
  refine wpAny_Call_method1_late (hb _ _) hl ht (wp_mono (h A P D s ro S) fun x s₁ ⟨a, H₁, ha, S₁, l, us, e1, hl1, h₁⟩ => ?_)
  subst e1; cases ha
  obtain ⟨xs, k, hx, rx⟩ := S₁.h.heap _ _ hl1
  refine ⟨"list", "list.append", PySem.F.plainAttrs_list, F.slot_list_append, F.type_list_append, ⟨_, hx, rfl⟩, fun b hb => by cases hb; exact ⟨_, hx, rfl⟩, ?_⟩
  refine PySem.P.append_list (wp_mono (h₁ A P D s₁ ro S₁) fun y s₂ ⟨v, H₂, hv, S₂, vs, hl2, hz, q⟩ => ?_)
  obtain ⟨ys, j, hy, ry⟩ := S₂.h.heap _ _ hl2
  have e2 : vs.length = ys.size := by simpa using ry.1
  refine ⟨ys, j, e2 ▸ hz, hy, .none, _, .none, S₂.upd (o' := .list (vs ++ [v])) hl2 (Heap.SameBut.update ..).extBut ⟨_, _, (Heap.get?_update_self _ hy rfl).trans rfl, ry.push hv⟩, q⟩

theorem EV.pop {o : Expr} {name : Str} {ap pos : Pos} (hn : name = "pop") (hb : ∀ env whole, attributeBase o name env whole = whole) (hl : (ap.endLine == pos.line) = true)
    (h : EV G n sc o (fun a H₁ => ∃ l us v, a = .ref l ∧ H₁ l = some (.list (us ++ [v])) ∧ us.length < sizeLine ∧ Q v (H₁.set l (.list us))) ρ H) :
    EV G n sc (.Call (.Attribute o name ap) [] [] pos) Q ρ H := by
  subst hn
  intro A P D s ro S
  refine wpAny_Call_method0_late (hb _ _) hl (wp_mono (h A P D s ro S) fun x s₁ ⟨a, H₁, ha, S₁, l, us, v, e1, hl1, hz, q⟩ => ?_)
  subst e1; cases ha
  obtain ⟨xs, k, hx, rx⟩ := S₁.h.heap _ _ hl1
  have e2 : us.length + 1 = xs.size := by simpa using rx.1
  refine ⟨"list", "list.pop", PySem.F.plainAttrs_list, F.slot_list_pop, F.type_list_pop, ⟨_, hx, rfl⟩, fun b hb => by cases hb; exact ⟨_, hx, rfl⟩, ?_⟩
  have hg : (us ++ [v])[us.length]? = some v := by simp
  obtain ⟨y, hy1, hy2⟩ := rx.get hg
  have e3 : xs.size - 1 = us.length := by (first | lia | omega)
  refine PySem.P.pop_list hx (y := y) (by rw [e3]; exact arr_get hy1) ?_ (by (first | lia | omega))
  refine ⟨v, _, hy2, S₁.upd (o' := .list us) hl1 (Heap.SameBut.update ..).extBut ⟨_, _, (Heap.get?_update_self _ hx rfl).trans rfl, ?_⟩, q⟩
  have e4 : (us ++ [v]).eraseIdx (xs.size - 1) = us := by rw [e3, List.eraseIdx_append_of_length_le (Nat.le_refl _)]; simp
  have := rx.erase (xs.size - 1)
  rw [e4] at this
  rw [show (xs.eraseIdxIfInBounds (xs.size - 1)).toList = xs.toList.eraseIdx (xs.size - 1) from by simp]
  exact this
theorem EV.popAt {o e : Expr} {name : Str} {ap pos : Pos} (hn : name = "pop") (hb : ∀ env whole, attributeBase o name env whole = whole) (hl : (ap.endLine == pos.line) = true) (hs : noStar [e] = true)
    (h : EV G n sc o (fun a H₁ => ∃ l us, a = .ref l ∧ H₁ l = some (.list us) ∧ EV G n sc e (fun v H₂ => ∃ w vs, v = .int 0 ∧ H₂ l = some (.list (w :: vs)) ∧ vs.length < sizeLine ∧ Q w (H₂.set l (.list vs))) ρ H₁) ρ H) :
    EV G n sc (.Call (.Attribute o name ap) [e] [] pos) Q ρ H := by
  subst hn
  intro A P D s ro S
  have ht : backTo pos (starEach [e] (D.env sc)) = [(false, eval e (D.env sc))] := by rw [star_cons hs]; rfl
  refine wpAny_Call_method1_late (hb _ _) hl ht (wp_mono (h A P D s ro S) fun x s₁ ⟨a, H₁, ha, S₁, l, us, e1, hl1, h₁⟩ => ?_)
  subst e1; cases ha
  obtain ⟨xs, k, hx, rx⟩ := S₁.h.heap _ _ hl1
  refine ⟨"list", "list.pop", PySem.F.plainAttrs_list, F.slot_list_pop, F.type_list_pop, ⟨_, hx, rfl⟩, fun b hb => by cases hb; exact ⟨_, hx, rfl⟩, ?_⟩
  refine PySem.P.pop_at_list (wp_mono (h₁ A P D s₁ ro S₁) fun y s₂ ⟨v, H₂, hv, S₂, w, vs, e, hl2, hz, q⟩ => ?_)
  subst e
  obtain ⟨t, rfl⟩ : ∃ t, y = .int 0 t := by cases hv; exact ⟨_, rfl⟩
  obtain ⟨ys, j, hy, ry⟩ := S₂.h.heap _ _ hl2
  have e2 : vs.length + 1 = ys.size := by simpa using ry.1
  obtain ⟨x, hx1, hx2⟩ := ry.get (i := 0) (v := w) rfl
  refine ⟨ys, j, 0, t, 0, x, by (first | lia | omega), rfl, hy, by decide, seqIndex_of (by decide) (by (first | lia | omega)), arr_get hx1, ?_⟩
  refine ⟨w, _, hx2, S₂.upd (o' := .list vs) hl2 (Heap.SameBut.update ..).extBut ⟨_, _, (Heap.get?_update_self _ hy rfl).trans rfl, ?_⟩, q⟩
  rw [show (ys.eraseIdxIfInBounds 0).toList = ys.toList.eraseIdx 0 from by simp]
  exact ry.erase 0
theorem EV.extend {o e : Expr} {name : Str} {ap pos : Pos} (hn : name = "extend") (hb : ∀ env whole, attributeBase o name env whole = whole) (hl : (ap.endLine == pos.line) = true) (hs : noStar [e] = true)
    (h : EV G n sc o (fun a H₁ => ∃ l us, a = .ref l ∧ H₁ l = some (.list us) ∧ EV G n sc e (fun v H₂ => ∃ b vs ws, v = .ref b ∧ H₂ l = some (.list vs) ∧ H₂ b = some (.list ws) ∧ vs.length + ws.length ≤ 2 ^ 20 ∧ Q .none (H₂.set l (.list (vs ++ ws)))) ρ H₁) ρ H) :
    EV G n sc (.Call (.Attribute o name ap) [e] [] pos) Q ρ H := by
  subst hn
  intro A P D s ro S
  have ht : backTo pos (starEach [e] (D.env sc)) = [(false, eval e (D.env sc))] := by rw [star_cons hs]; rfl
  refine wpAny_Call_method1_late (hb _ _) hl ht (wp_mono (h A P D s ro S) fun x s₁ ⟨a, H₁, ha, S₁, l, us, e1, hl1, h₁⟩ => ?_)
  subst e1; cases ha
  obtain ⟨xs, k, hx, rx⟩ := S₁.h.heap _ _ hl1
  refine ⟨"list", "list.extend", PySem.F.plainAttrs_list, F.slot_list_extend, F.type_list_extend, ⟨_, hx, rfl⟩, fun b hb => by cases hb; exact ⟨_, hx, rfl⟩, ?_⟩
  refine PySem.P.extend_list (wp_mono (h₁ A P D s₁ ro S₁) fun y s₂ ⟨v, H₂, hv, S₂, b, vs, ws, e, hl2, hb2, hz, q⟩ => ?_)
  subst e; cases hv
  obtain ⟨ys, j, hy, ry⟩ := S₂.h.heap _ _ hl2
  obtain ⟨zs, i, hz2, rz⟩ := S₂.h.heap _ _ hb2
  have e2 : vs.length = ys.size := by simpa using ry.1
  have e3 : ws.length = zs.size := by simpa using rz.1
  refine ⟨b, ys, zs, j, i, by rw [sizeLine_eq]; (first | lia | omega), by rw [sizeLine_eq]; (first | lia | omega), ?_, rfl, hy, hz2, .none, _, .none, S₂.upd (o' := .list (vs ++ ws)) hl2 (Heap.SameBut.update ..).extBut ⟨_, _, (Heap.get?_update_self _ hy rfl).trans rfl, ?_⟩, q⟩
  · have : Builtin.List.listTooLong (ys.size + zs.size) = false := by simp [Builtin.List.listTooLong]; have := sizeLine_eq; (first | lia | omega)
    rw [this]; simp
  · rw [Array.toList_append]; exact ry.append rz

/- builtins -/
theorem EV.len {x : Str} {p pos : Pos} {e : Expr} (hk : sc.kind = .function) (hl : sc.names.lookup x = some .globalImplicit) (hd : (x == ("__debug__" : Str)) = false) (hb : BuiltinIs G x (.builtin "len")) (hs : noStar [e] = true)
    (h : EV G n sc e (fun v H₁ => ∃ l vs, v = .ref l ∧ H₁ l = some (.list vs) ∧ vs.length ≤ 2 ^ 24 ∧ Q (.int vs.length) H₁) ρ H) : EV G n sc (.Call (.Name x p) [e] [] pos) Q ρ H := by
  refine EV.callB hk hl hd hb hs (ES.cons' hs (h.mono fun v H₁ ⟨l, vs, e, hl, hz, q⟩ => ES.nil fun xs hv => ?_))
  subst e
  obtain ⟨xb, r, rfl, hx, hv⟩ := hv.cons_inv
  rw [hv.nil_inv]
  cases hx
  intro A P sc D ρ s r S
  obtain ⟨xs, k, hx, rx⟩ := S.h.heap _ _ hl
  have e2 : vs.length = xs.size := by simpa using rx.1
  exact PyProof.Rows.len_list (items := xs) ⟨_, hx, rfl, _, rfl⟩ (by (first | lia | omega)) ⟨.int vs.length, H₁, by rw [e2]; exact .int _ _, S.toks _, q⟩
theorem EV.min2 {x : Str} {p pos : Pos} {e e' : Expr} (hk : sc.kind = .function) (hl : sc.names.lookup x = some .globalImplicit) (hd : (x == ("__debug__" : Str)) = false) (hb : BuiltinIs G x (.builtin "min")) (hs : noStar [e, e'] = true)
    (h : EV G n sc e (fun v H₁ => EV G n sc e' (fun w H₂ => ∃ a b : Int, v = .int a ∧ w = .int b ∧ Q (.int (min a b)) H₂) ρ H₁) ρ H) : EV G n sc (.Call (.Name x p) [e, e'] [] pos) Q ρ H := by
  refine EV.callB hk hl hd hb hs (ES.cons' hs (h.mono fun v H₁ h' => ES.cons' (noStar_tail hs) (h'.mono fun w H₂ ⟨a, b, e1, e2, q⟩ => ES.nil fun xs hv => ?_)))
  subst e1; subst e2
  obtain ⟨xa, r, rfl, hxa, hv⟩ := hv.cons_inv
  obtain ⟨xb, r, rfl, hxb, hv⟩ := hv.cons_inv
  rw [hv.nil_inv]
  obtain ⟨ta, rfl⟩ : ∃ t, xa = .int a t := by cases hxa; exact ⟨_, rfl⟩
  obtain ⟨tb, rfl⟩ : ∃ t, xb = .int b t := by cases hxb; exact ⟨_, rfl⟩
  intro A P sc D ρ s r S
  refine min_two_ints r.handled fun h' tk hk => ?_
  have S' := (S.ext hk).toks tk
  refine ⟨.int (min a b), H₂, ?_, S', q⟩
  split
  · rw [Int.min_eq_right (by (first | lia | omega))]; exact .int _ _
  · rw [Int.min_eq_left (by (first | lia | omega))]; exact .int _ _
theorem EV.list {x : Str} {p pos : Pos} {e : Expr} (hk : sc.kind = .function) (hl : sc.names.lookup x = some .globalImplicit) (hd : (x == ("__debug__" : Str)) = false) (hb : BuiltinIs G x (.type "list")) (hs : noStar [e] = true)
    (h : EV G n sc e (fun v H₁ => ∃ l vs, v = .ref l ∧ H₁ l = some (.list vs) ∧ vs.length ≤ 2 ^ 24 ∧ ∀ a, H₁ a = none → Q (.ref a) (H₁.set a (.list vs))) ρ H) : EV G n sc (.Call (.Name x p) [e] [] pos) Q ρ H := by
  refine EV.callT hk hl hd hb hs (ES.cons' hs (h.mono fun v H₁ ⟨l, vs, e, hl, hz, q⟩ => ES.nil fun xs hv => ?_))
  subst e
  obtain ⟨xb, r, rfl, hx, hv⟩ := hv.cons_inv
  rw [hv.nil_inv]
  cases hx
  intro A P sc D ρ s r S
  obtain ⟨xs, k, hx, rx⟩ := S.h.heap _ _ hl
  have e2 : vs.length = xs.size := by simpa using rx.1
  refine call_list_seq l (.inl rfl) hx rfl rfl (fun h' c' hk ho => ?_) (by rw [sizeLine_is]; (first | lia | omega))
  exact ⟨.ref _, _, .ref _, S.alloc (o := .list vs) (Nat.le_refl _) hk ⟨xs, c', ho, rx⟩, q _ (S.h.fresh (Nat.le_refl _)).1⟩
theorem intsAre_of {k : Int} {x : Value} (h : VR (.int k) x) : IntsAre [x] [k] := by
  cases h; exact .cons _ _ .nil
theorem EV.bytes1 {x : Str} {p pos : Pos} {e : Expr} (hk : sc.kind = .function) (hl : sc.names.lookup x = some .globalImplicit) (hd : (x == ("__debug__" : Str)) = false) (hb : BuiltinIs G x (.type "bytes")) (hs : noStar [e] = true)
    (h : EV G n sc e (fun v H₁ => ∃ l k, v = .ref l ∧ H₁ l = some (.list [.int k]) ∧ (0 ≤ k ∧ k < 256) ∧ Q (.byt (byteArr [k])) H₁) ρ H) : EV G n sc (.Call (.Name x p) [e] [] pos) Q ρ H := by
  refine EV.callT hk hl hd hb hs (ES.cons' hs (h.mono fun v H₁ ⟨l, k, e, hl, hr, q⟩ => ES.nil fun xs hv => ?_))
  subst e
  obtain ⟨xb, r, rfl, hx, hv⟩ := hv.cons_inv
  rw [hv.nil_inv]
  cases hx
  intro A P sc D ρ s r S
  obtain ⟨xs, j, hx, rx⟩ := S.h.heap _ _ hl
  obtain ⟨y, t, e1, hy, ht⟩ := rx.cons_inv
  rw [ht.nil_inv] at e1
  have e2 : xs = [y].toArray := by rw [← e1]
  refine call_bytes_ints (vs := [y]) (ns := [k]) ⟨_, hx, rfl, _, by rw [e2]⟩ (intsAre_of hy) (by intro m hm; simp at hm; (first | lia | omega)) (by have := sizeLine_is; simp; (first | lia | omega)) r.handled fun h' t k' hk => ?_
  exact ⟨_, H₁, .byt _ _, (S.ext hk).toks _, q⟩
end


/-- a plain class of the top -/
structure ClsAt (G : Gx) (C : Addr) (names : List Str) : Prop where
  at_ : ∃ K : Frag, K.In G.base ∧ (clsIn K C).any (·.hasDict) = true ∧ findIn K (.ref C) "__getattribute__" = some (some (.builtin "object.__getattribute__")) ∧
    findIn K (.ref C) "__setattr__" = some (some (.builtin "object.__setattr__")) ∧ plainOver K C = true ∧ ∀ f ∈ names, findIn K (.ref C) f = some none

theorem handed_VR {v : AV} {w : Value} (h : VR v w) : handedIn w = true := by cases h <;> rfl
theorem lookIn_flds {es : Array DictEntry} {k : Nat} {fs : List (Str × AV)} (F : FldsOk es fs) (x : Str) : lookIn x { cls := .type "dict", dict := none, data := .dict es k, slots := #[] } = some (nsFind es x) := by
  have hany : es.toList.any (·.refKey) = false := by
    rw [List.any_eq_false]; intro e he
    obtain ⟨n, t, h⟩ := F.1 e (by simpa using he); simp [DictEntry.refKey, h]
  unfold lookIn nsFind findBy
  dsimp only
  rw [← Array.find?_toList]
  cases hf : es.toList.find? (·.key.isStr x) with
  | some e => simp
  | none => simp [hany]

section
variable {G : Gx} {n : Nat} {sc : Scope} {ρ : Loc} {H : AH} {Q : AV → AH → Prop}
theorem EV.attr {o : Expr} {f : Str} {p : Pos} (hb : ∀ env whole, attributeBase o f env whole = whole)
    (h : EV G n sc o (fun a H₁ => ∃ x C d fs names v, a = .ref x ∧ H₁ x = some (.inst C d) ∧ H₁ d = some (.flds fs) ∧ ClsAt G C names ∧ f ∈ names ∧ fs.lookup f = some v ∧ Q v H₁) ρ H) : EV G n sc (.Attribute o f p) Q ρ H := by
  intro A P D s ro S
  rw [show eval (.Attribute o f p) (D.env sc) = (do
    let ov ← attributeBase o f (D.env sc) (eval o (D.env sc))
    standAt p.atName
    let r ← holding [ov] (getAttr ov f true)
    letTemporaryGo o ov r
    pure r) from rfl, hb]
  refine wpAny_bind (wp_mono (h A P D s ro S) fun x s₁ ⟨a, H₁, ha, S₁, x, C, d, fs, names, v, e, hx, hd, hc, hf, hv, q⟩ => ?_)
  subst e; cases ha
  obtain ⟨K, X, k1, k2, k3, k4, k5⟩ := hc.at_
  have hX : s₁.heap.get? x = some { cls := .ref C, dict := some d, data := .plain, slots := #[] } := S₁.h.heap _ _ hx
  obtain ⟨es, k, hD, F⟩ := S₁.h.heap _ _ hd
  have := F.2.2 f
  rw [hv] at this
  obtain ⟨w, hw, hr⟩ := this
  obtain ⟨cd, hcd, hhd⟩ := any_some k1
  have hfo : findObj K C (some { cls := .type "dict", dict := none, data := .dict es k, slots := #[] }) f = some (.value w) := by
    unfold findObj
    rw [hcd, k5 f hf]
    simp only [Option.bind_some, PySem.W.ownOf, hhd, if_true, lookIn_flds F, hw]
  refine wpAny_bind (wpAny_standAt (wpAny_bind (wpAny_holding (get_value (X.keeps fun b o e => S₁.h.baseIn e) ⟨hX, rfl, rfl, hD⟩ k2 hfo (handed_VR hr) ?_))))
  exact wpAny_bind (wpAny_letTemporaryGo (wpAny_pure ⟨v, H₁, hr, S₁.toks _, q⟩))

theorem isStr_dec (x z : Str) (t : Tok) : (Value.str x t).isStr z = decide (z = x) := by
  by_cases hz : z = x
  · subst hz; rw [decide_eq_true rfl]; exact beq_self_eq_true z
  · rw [decide_eq_false hz]; show (x == z) = false; exact beq_false_of_ne (Ne.symm hz)
noncomputable def fset (fs : List (Str × AV)) (x : Str) (v : AV) : List (Str × AV) := (x, v) :: fs
theorem FldsOk.set {es : Array DictEntry} {fs : List (Str × AV)} (F : FldsOk es fs) {x : Str} {v : AV} {w : Value} (h : VR v w) (hash : Int) (t : Tok) (k : Nat) :
    ∃ es' k', Obj.putName x hash (.str x t) w { cls := .type "dict", dict := none, data := .dict es k, slots := #[] } = { cls := .type "dict", dict := none, data := .dict es' k', slots := #[] } ∧ FldsOk es' (fset fs x v) := by
  have key : ∀ es' : Array DictEntry, StrKeys es' → es'.size ≤ es.size + 1 → (∀ y, nsFind es' y = if y = x then some w else nsFind es y) → FldsOk es' (fset fs x v) := fun es' h1 h2 h3 => by
    refine ⟨h1, by have := F.2.1; simp [fset]; (first | lia | omega), fun y => ?_⟩
    rw [h3 y]
    unfold fset
    rw [List.lookup_cons]
    by_cases hy : y = x
    · subst hy; simp only [beq_self_eq_true, if_true]; exact ⟨w, rfl, h⟩
    · rw [show (y == x) = false from by simpa using hy, if_neg hy]; exact F.2.2 y
  rw [Obj.putName_eq]
  unfold Obj.putNameByArray
  dsimp only
  cases hi : es.findIdx? (·.key.isStr x) with
  | some i => exact ⟨_, _, rfl, key _ (F.1.modify i w) (by simp) fun y => findBy_modify _ Value.isStr_inj es x y w i hi⟩
  | none => exact ⟨_, _, rfl, key _ (F.1.push hash x t w) (by simp) fun y => findBy_push _ es x y hash (.str x t) w (fun z => isStr_dec x z t) hi⟩

theorem AS.attr {o : Expr} {f : Str} {p : Pos} {v : AV} {fs : Bool} {Q : Loc → AH → Prop}
    (h : EV G n sc o (fun a H₁ => ∃ x C d fl names, a = .ref x ∧ H₁ x = some (.inst C d) ∧ H₁ d = some (.flds fl) ∧ ClsAt G C names ∧ f ∈ names ∧ fl.length ≤ 1000 ∧ Q ρ (H₁.set d (.flds (fset fl f v)))) ρ H) : AS G n fs sc (.Attribute o f p) v Q ρ H := by
  intro A P D s w ro hfs S hv
  rw [arm_assign_Attribute]
  refine wpAny_bind (wpAny_holding (wp_mono (h A P D s ro S) fun x s₁ ⟨a, H₁, ha, S₁, x, C, d, fl, names, e, hx, hd, hc, hf, hz, q⟩ => ?_))
  subst e; cases ha
  obtain ⟨K, X, k1, k2, k3, k4, k5⟩ := hc.at_
  obtain ⟨cd, hcd, hhd⟩ := any_some k1
  obtain ⟨es₀, k₀, hD₀, _⟩ := S₁.h.heap _ _ hd
  have hX₀ : s₁.heap.get? x = some { cls := .ref C, dict := some d, data := .plain, slots := #[] } := S₁.h.heap _ _ hx
  refine wpAny_bind (wpAny_standAt (wpAny_bind (wpAny_holding (set_plain (X.keeps fun b o e => S₁.h.baseIn e) (od := some { cls := .type "dict", dict := none, data := .dict es₀ k₀, slots := #[] }) ⟨hX₀, rfl, rfl, hD₀⟩ k3 ?_))))
  have S₂ := S₁.toks (s₁.toks + 1)
  generalize ({ s₁ with toks := s₁.toks + 1 } : Shared) = s₂ at S₂ ⊢
  have hX : s₂.heap.get? x = some { cls := .ref C, dict := some d, data := .plain, slots := #[] } := S₂.h.heap _ _ hx
  obtain ⟨es, k, hD, F⟩ := S₂.h.heap _ _ hd
  have X₂ : K.In s₂.heap := X.keeps fun b o e => S₂.h.baseIn e
  refine osa_open X₂ (od := some { cls := .type "dict", dict := none, data := .dict es k, slots := #[] }) ⟨hX, rfl, rfl, hD⟩ k4 (r := none) (by unfold takerIn; rw [k5 f hf]; rfl) fun b => ?_
  refine wpAny_bind (wpAny_pure (wpAny_bind (wpAny_bind (wpAny_loadPart hX (wpAny_bind ((looks_clsIn X₂ hcd).here ?_))))))
  rw [hhd]
  refine wpAny_pure (a := some d) (wpAny_bind (wpAny_pure (wpAny_bind ?_)))
  unfold nsSet
  refine wpAny_bind (wpAny_bind (wpAny_askSetting (wpAny_pure (wpAny_bind (wpAny_mkText (wpAny_bind (wpAny_loadPart hD ?_)))))))
  dsimp only
  have c : (!es.any (·.key.isStr f) && es.any (·.refKey)) = false := by
    have : es.any (·.refKey) = false := by
      rw [Array.any_eq_false']; intro e he; obtain ⟨n, t, h⟩ := F.1 e he; simp [DictEntry.refKey, h]
    rw [this, Bool.and_false]
  rw [aRefKeyMayBeTheName_at, c]
  obtain ⟨es', k', e1, F'⟩ := F.set (x := f) hv (PyData.keyHash G.w.params f) s₂.toks k
  have D' := Heap.get?_update_self (Obj.putName f (PyData.keyHash G.w.params f) (.str f s₂.toks) w) hD (by rw [e1]; rfl)
  rw [e1] at D'
  refine wpAny_updatePart hD ?_
  have hz' : es'.size ≤ sizeLine + 1 := by have := F'.2.1; simp [fset] at this; rw [sizeLine_eq]; (first | lia | omega)
  refine wpAny_bind (wpAny_lookBehind D' (pastItsLine_dict hz') ?_)
  have S₃ := (S₂.upd (o' := .flds (fset fl f v)) hd (Heap.SameBut.update ..).extBut ⟨es', k', D', F'⟩).toks (s₂.toks + 1)
  exact wpAny_pure (wpAny_release ⟨ρ, _, S₃, q⟩)
end


/-- a call of a def, as code -/
noncomputable def CC (G : Gx) (n : Nat) (a : Addr) (vs : List AV) (Q : AV → AH → Prop) (H : AH) : Prop :=
  ∀ A P s xs (R : Result → Shared → Prop), Room A n → StH G P H s → VRs vs xs → (∀ v x H' s', VR v x → StH G P H' s' → Q v H' → R (.ok (.ret x)) s') → codeAny (model G.prog G.w) A (.call (.ref a) ⟨xs, []⟩) R s
theorem CC.cl {G : Gx} {n : Nat} {a : Addr} {vs : List AV} {Q : AV → AH → Prop} {H : AH} (h : CC G n a vs Q H) : CL G n a vs Q H :=
  fun A P s xs r S hv => wpAny_call (h A P s xs _ r S hv fun v x H' s' hx S' q => ⟨v, H', hx, S', q⟩)
theorem CC.mono {G : Gx} {n : Nat} {a : Addr} {vs : List AV} {Q Q' : AV → AH → Prop} {H : AH} (h : CC G n a vs Q H) (k : ∀ v H', Q v H' → Q' v H') : CC G n a vs Q' H :=
  fun A P s xs R r S hv hR => h A P s xs R r S hv fun v x H' s' hx S' q => hR v x H' s' hx S' (k _ _ q)
theorem CC.def {G : Gx} {n : Nat} {H : AH} {Q : AV → AH → Prop} {a : Addr} {ps : List Str} {body : List Stmt} {scope : Scope} {vs : List AV} (hf : FnAt G a ps body scope) (hs : fnScopeOk ps scope = true) (hn : vs.length = ps.length)
    (h : SXs G n scope body (fun f ρ' H' => ∃ v, (f = .ret v ∨ (f = .next ∧ v = .none)) ∧ ∃ H'', H''.le H' ∧ Q v H'') (rho0 ps vs) H) : CC G (n + 1) a vs Q H :=
  fun A P s xs R r S hv hR => code_fn hf hs hn r S hv h hR

/-- a class of the top that makes objects -/
structure NewAt (G : Gx) (C fI : Addr) : Prop where
  at_ : ∃ K : Frag, K.In G.base ∧ keepIn K (.ref C) = true ∧ makesIn K C = true ∧ findIn K (.ref C) "__init__" = some (some (.ref fI)) ∧ typeIn K (.ref fI) = some (.type "function")

section
variable {G : Gx} {n : Nat} {sc : Scope} {ρ : Loc} {H : AH} {Q : AV → AH → Prop}
theorem tc_weight (C : Addr) (xs : List Value) : (Code.builtin "type.__call__" ⟨.ref C :: xs, []⟩).weight ≤ 4 ∧ (Code.builtin "type.__call__" ⟨.ref C :: xs, []⟩).cUnits ≤ 40 := ⟨Nat.le_of_ble_eq_true rfl, Nat.le_of_ble_eq_true rfl⟩

theorem flds_nil : FldsOk #[] [] := ⟨fun e h => by simp at h, Nat.le_refl _, fun x => rfl⟩
theorem make_new {C fI : Addr} {vs : List AV} {A : Around} {P : Hid} {s : Shared} {xs : List Value} (hc : NewAt G C fI) (r : Room A (n + 1)) (S : StH G P H s) (hv : VRs vs xs)
    (h : ∀ d x, H d = none → H x = none → d ≠ x → CC G n fI (.ref x :: vs) (fun v H₂ => v = .none ∧ Q (.ref x) H₂) ((H.set d (.flds [])).set x (.inst C d))) :
    wpAny (model G.prog G.w) A (call (.ref C) xs) (fun v s' => ∃ av H', VR av v ∧ StH G P H' s' ∧ Q av H') FF s := by
  obtain ⟨K, X, k1, k2, k3, k4⟩ := hc.at_
  refine wpAny_call ?_
  obtain ⟨hh, g, d, t, os⟩ := s
  have X₁ : K.In hh := X.keeps fun b o e => S.baseIn e
  refine make_core (makes_of X₁ k2) (looks_findIn X₁ k3) (fun self => bind_fn X₁ self k4) (.inl rfl) ?_
  have S₁ := S.alloc (a := hh.objs.size) (h' := hh.push emptyDict) (o := .flds []) (Nat.le_refl _) (fun b o e => Heap.get?_push_of_some _ e) ⟨#[], 0, Heap.get?_push_size _ rfl, flds_nil⟩
  have hsz : (hh.push emptyDict).objs.size = hh.objs.size + 1 := Heap.size_push ..
  have S₂ := S₁.alloc (a := hh.objs.size + 1) (h' := (hh.push emptyDict).push (instObj C hh.objs.size)) (o := .inst C hh.objs.size) (by show (hh.push emptyDict).objs.size ≤ _; rw [hsz]; exact Nat.le_refl _) (fun b o e => Heap.get?_push_of_some _ e)
    (show Heap.get? _ _ = some _ by rw [← hsz]; exact Heap.get?_push_size _ rfl)
  have f1 := (S.fresh (Nat.le_refl hh.objs.size)).1
  have f2 := (S.fresh (Nat.le_succ hh.objs.size)).1
  refine h hh.objs.size (hh.objs.size + 1) f1 f2 (Nat.ne_of_lt (Nat.lt_succ_self _)) _ P _ _ _ (r.under1 (tc_weight _ _).1 (tc_weight _ _).2) S₂ (VRs.cons (.ref _) hv) fun v y H' s' hy S' q => ?_
  obtain ⟨rfl, q⟩ := q
  cases hy
  exact ⟨rfl, .ref _, H', .ref _, S', q⟩

variable {x : Str} {p pos : Pos}
theorem EV.new {C fI : Addr} {e : Expr} {es : List Expr} (hk : sc.kind = .function) (hl : sc.names.lookup x = some .globalImplicit) (hd : (x == ("__debug__" : Str)) = false) (hg : G.mg x = some (.ref C)) (hc : NewAt G C fI) (hs : noStar (e :: es) = true)
    (h : ES G (n + 1) sc (e :: es) (fun vs H₁ => ∀ d x, H₁ d = none → H₁ x = none → d ≠ x → CC G n fI (.ref x :: vs) (fun v H₂ => v = .none ∧ Q (.ref x) H₂) ((H₁.set d (.flds [])).set x (.inst C d))) ρ H) :
    EV G (n + 1) sc (.Call (.Name x p) (e :: es) [] pos) Q ρ H := by
  intro A P D s r S
  obtain ⟨K, X, k1, _⟩ := hc.at_
  refine wpAny_Call_NameR (Name_function_global (env := D.env sc) hk hl (loadGlobal_global (ns_base S.h G.g) hg ?_) hd)
  refine callWith_K (first := []) X k1 (wp_mono (h A P D s pos r S) fun xs s₁ ⟨vs, H₁, hv, S₁, h₁⟩ => ⟨X.keeps fun b o e => S₁.h.baseIn e, ?_⟩) (star_cons hs _) (star_plain (noStar_tail hs) _ _)
  exact wp_mono (make_new (H := H₁) hc r S₁.h.hide hv h₁) fun v s₂ ⟨av, H₂, hv2, S₂, q⟩ => ⟨av, H₂, hv2, S₁.back S₂, q⟩
theorem EV.new0 {C fI : Addr} (hk : sc.kind = .function) (hl : sc.names.lookup x = some .globalImplicit) (hd : (x == ("__debug__" : Str)) = false) (hg : G.mg x = some (.ref C)) (hc : NewAt G C fI)
    (h : ∀ d x, H d = none → H x = none → d ≠ x → CC G n fI [.ref x] (fun v H₂ => v = .none ∧ Q (.ref x) H₂) ((H.set d (.flds [])).set x (.inst C d))) :
    EV G (n + 1) sc (.Call (.Name x p) [] [] pos) Q ρ H := by
  intro A P D s r S
  obtain ⟨K, X, k1, _⟩ := hc.at_
  refine wpAny_Call_NameR (Name_function_global (env := D.env sc) hk hl (loadGlobal_global (ns_base S.h G.g) hg ?_) hd)
  refine callWith_K0 (first := []) (X.keeps fun b o e => S.h.baseIn e) k1 ?_
  exact wp_mono (make_new (H := H) hc r S.h.hide VRs.nil h) fun v s₂ ⟨av, H₂, hv2, S₂, q⟩ => ⟨av, H₂, hv2, S.back S₂, q⟩

/-- a def read off a class of the top -/
structure ClsFn (G : Gx) (C : Addr) (name : Str) (f : Addr) : Prop where
  at_ : ∃ (K : Frag) (mc : Value), K.In G.base ∧ specialIn K (.ref C) "__getattribute__" = some (some (.builtin "type.__getattribute__")) ∧ readsIn K C mc = true ∧ findCls K (.ref C) mc name = some (.val (.ref f)) ∧ keepIn K (.ref f) = true
theorem EV.clsCall {C f : Addr} {m : Str} {ap : Pos} {e : Expr} {es : List Expr} (hk : sc.kind = .function) (hl : sc.names.lookup x = some .globalImplicit) (hd : (x == ("__debug__" : Str)) = false) (hg : G.mg x = some (.ref C)) (hc : ClsFn G C m f) (hs : noStar (e :: es) = true)
    (hline : (ap.endLine == pos.line) = true) (hbase : ∀ env whole, attributeBase (.Name x p) m env whole = whole)
    (hfew : ∀ D : Dyn, ((backTo pos (starEach (e :: es) (D.env sc))).all (fun x => !x.1) && (backToKw pos (keywordEach [] (D.env sc))).all (fun x => x.1.isSome)
      && decide ((e :: es).length + ([] : List Keyword).length + (if ([] : List Keyword).isEmpty then 0 else 1) < 30)) = true)
    (h : ES G n sc (e :: es) (fun vs H₁ => CL G n f vs Q H₁) ρ H) : EV G n sc (.Call (.Attribute (.Name x p) m ap) (e :: es) [] pos) Q ρ H := by
  intro A P D s r S
  obtain ⟨K, mc, X, k1, k2, k3, k4⟩ := hc.at_
  rw [arm_eval_Call, hbase]
  refine wpAny_bind ?_
  refine Name_function_global (env := D.env sc) hk hl (loadGlobal_global (ns_base S.h G.g) hg ?_) hd
  refine wpAny_bind (wpAny_standAt ?_)
  have X₁ : K.In s.heap := X.keeps fun b o e => S.h.baseIn e
  have hform : methodCallForm ((e :: es).length + ([] : List Keyword).length) (backTo pos (starEach (e :: es) (D.env sc))) (backToKw pos (keywordEach [] (D.env sc))) = true := hfew D
  have hpos : methodCallPos true (.Name x p) (D.env sc) ap pos = pure pos := by unfold methodCallPos; simp [hline]
  unfold methodCall
  rw [hform]
  refine wpAny_bind (wpAny_holding (method_cls X₁ k1 (cls_value X₁ k2 k3 rfl ?_)))
  refine wpAny_bind (wpAny_of_eq hpos ?_)
  have S' := S.toks (s.toks + 1)
  refine callWith_K (first := []) X k4 (wp_mono (h A P D _ pos r S') fun xs s₁ ⟨vs, H₁, hv, S₁, h₁⟩ => ⟨X.keeps fun b o e => S₁.h.baseIn e, ?_⟩) (star_cons hs _) (star_plain (noStar_tail hs) _ _)
  exact wp_mono (h₁ A _ s₁ xs r S₁.h.hide hv) fun v s₂ ⟨av, H₂, hv2, S₂, q⟩ => ⟨av, H₂, hv2, S₁.back S₂, q⟩
end


noncomputable def stAt (i : Nat) : Stmt := (PySem.Challenge.pw_nt0662_01.main.body).getD i (.Pass ⟨0, 0, 0, 0⟩)
noncomputable def fnN : Stmt → Str
  | .FunctionDef x .. => x
  | _ => ""
noncomputable def fnB : Stmt → List Stmt
  | .FunctionDef _ _ b .. => b
  | _ => []
noncomputable def fnS : Stmt → Scope
  | .FunctionDef _ _ _ _ _ _ s .. => s
  | _ => { kind := .module, names := [], isGenerator := false, isCoroutine := false, more := [] }
noncomputable def fnP : Stmt → List Str
  | .FunctionDef _ a .. => a.args.map (·.arg)
  | _ => []
/-- the def stands at the top under its name -/
noncomputable def FnHere (G : Gx) (st : Stmt) : Prop := ∃ a, G.mg (fnN st) = some (.ref a) ∧ FnAt G a (fnP st) (fnB st) (fnS st)

/-- a call by name -/
noncomputable def NC (G : Gx) (n : Nat) (x : Str) (vs : List AV) (Q : AV → AH → Prop) (H : AH) : Prop := ∃ a ps body scope, G.mg x = some (.ref a) ∧ FnAt G a ps body scope ∧ CL G n a vs Q H
theorem NC.mono {G : Gx} {n : Nat} {x : Str} {vs : List AV} {Q Q' : AV → AH → Prop} {H : AH} (h : NC G n x vs Q H) (k : ∀ v H', Q v H' → Q' v H') : NC G n x vs Q' H := by
  obtain ⟨a, ps, body, scope, h1, h2, h3⟩ := h; exact ⟨a, ps, body, scope, h1, h2, h3.mono k⟩
noncomputable def DoneP (Q : AV → AH → Prop) (f : AF) (_ : Loc) (H' : AH) : Prop := ∃ v, (f = .ret v ∨ (f = .next ∧ v = .none)) ∧ ∃ H'', H''.le H' ∧ Q v H''
theorem DoneP.ret {Q : AV → AH → Prop} {v : AV} {ρ : Loc} {H : AH} (h : Q v H) : DoneP Q (.ret v) ρ H := ⟨v, .inl rfl, H, .refl H, h⟩
theorem DoneP.retLe {Q : AV → AH → Prop} {v : AV} {ρ : Loc} {H H' : AH} (l : H.le H') (h : Q v H) : DoneP Q (.ret v) ρ H' := ⟨v, .inl rfl, H, l, h⟩
theorem DoneP.next {Q : AV → AH → Prop} {ρ : Loc} {H : AH} (h : Q .none H) : DoneP Q .next ρ H := ⟨.none, .inr ⟨rfl, rfl⟩, H, .refl H, h⟩
section
variable {G : Gx} {n : Nat} {sc : Scope} {ρ : Loc} {H : AH} {Q : AV → AH → Prop}
/-- a name of the frame, or of the top -/
noncomputable def nameOk (sc : Scope) (x : Str) (k : NameKind) : Bool := sc.kind == .function && sc.names.lookup x == some k && !(x == ("__debug__" : Str))
theorem nameOk_of {sc : Scope} {x : Str} {k : NameKind} (h : nameOk sc x k = true) : sc.kind = .function ∧ sc.names.lookup x = some k ∧ (x == ("__debug__" : Str)) = false := by
  unfold nameOk at h; simp only [Bool.and_eq_true, beq_iff_eq, Bool.not_eq_true'] at h; exact ⟨h.1.1, h.1.2, h.2⟩
theorem EV.locN {x : Str} {p : Pos} {v : AV} (hk : nameOk sc x .local = true) (hv : ρ x = some v) (h : Q v H) : EV G n sc (.Name x p) Q ρ H := let ⟨k1, k2, k3⟩ := nameOk_of hk; EV.loc k1 k2 k3 hv h
theorem EV.celN {x : Str} {p : Pos} {v : AV} (hk : nameOk sc x .cell = true) (hv : ρ x = some v) (h : Q v H) : EV G n sc (.Name x p) Q ρ H := let ⟨k1, k2, k3⟩ := nameOk_of hk; EV.cel k1 k2 k3 hv h

noncomputable def intTab : List (Str × Int) := [("SIZE_OP", 6), ("SIZE_A", 8), ("SIZE_B", 9), ("SIZE_C", 9), ("SIZE_BX", 18), ("POS_OP", 0), ("POS_A", 6), ("POS_C", 14), ("POS_B", 23), ("POS_BX", 14), ("MAXARG_BX", 262143), ("MAXARG_SBX", 131071), ("MAX_WORD", 4294967295),
  ("OP_LOADBOOL", 2), ("OP_JMP", 22), ("OP_EQ", 23), ("OP_LT", 24), ("OP_LE", 25), ("OP_TEST", 26), ("OP_TESTSET", 27), ("OP_RETURN", 30), ("OP_FORLOOP", 31), ("OP_FORPREP", 32), ("OP_TFORLOOP", 33), ("OP_SETLIST", 34), ("OP_CLOSURE", 36)]
noncomputable def tupTab : List (Str × List Int) := [("TESTS", [23, 24, 25, 26, 27]), ("_law_tests", [23, 24, 26, 27, 33]), ("_law_jumps", [22, 31, 32])]
noncomputable def bltTab : List (Str × Value) := [("len", .builtin "len"), ("min", .builtin "min"), ("range", .type "range"), ("list", .type "list"), ("enumerate", .type "enumerate"), ("bytes", .type "bytes")]
noncomputable def nmTab : List (Str × Nat) := [("field", 28), ("with_field", 29), ("create_abc", 30), ("get_op", 31), ("get_c", 32), ("get_bx", 33), ("get_sbx", 34), ("set_c", 35), ("set_bx", 36), ("set_sbx", 37), ("words_of", 47), ("starts_of", 48), ("is_jump", 49), ("target", 50), ("next_places", 51), ("reached", 52), ("copied", 53), ("laid_out", 54), ("without_skips", 55), ("drop_dead", 56), ("_law_take", 60), ("_law_word", 61), ("_law_parts", 62), ("_law_distance", 63), ("_law_some", 64), ("_law_proto", 65), ("_law_size", 66), ("_law_next", 67), ("_law_live", 68), ("_law_trace", 69), ("_law_held", 70), ("_law_right", 71)]
structure WW (G : Gx) : Prop where
  hInts : ∀ x i, (x, i) ∈ intTab → GlobIs G x (.int i)
  hTups : ∀ x is, (x, is) ∈ tupTab → ∃ a, G.mg x = some (.ref a) ∧ TupInts G.base a is
  hBlts : ∀ x v, (x, v) ∈ bltTab → BuiltinIs G x v
  hFns : ∀ x i, (x, i) ∈ nmTab → fnN (stAt i) = x ∧ FnHere G (stAt i)
theorem mem_lookup {α : Type} {l : List (Str × α)} {x : Str} {v : α} (h : l.lookup x = some v) : (x, v) ∈ l := by
  induction l with
  | nil => cases h
  | cons p r ih =>
    obtain ⟨y, c⟩ := p
    rw [List.lookup_cons] at h
    split at h
    · rename_i hy; cases h; rw [beq_iff_eq.mp hy]; exact List.mem_cons_self
    · exact List.mem_cons_of_mem _ (ih h)
variable (W : WW G)
include W
theorem EV.globI {x : Str} {p : Pos} {i : Int} (hk : nameOk sc x .globalImplicit = true) (hv : intTab.lookup x = some i) (h : Q (.int i) H) : EV G n sc (.Name x p) Q ρ H :=
  let ⟨k1, k2, k3⟩ := nameOk_of hk; EV.glob k1 k2 k3 (W.hInts x i (mem_lookup hv)) h
theorem WW.fn {x : Str} (i : Nat) (hi : nmTab.lookup x = some i) : fnN (stAt i) = x ∧ FnHere G (stAt i) := W.hFns x i (mem_lookup hi)
theorem EV.callN {i : Nat} {x : Str} {p pos : Pos} {e : Expr} {es : List Expr} (hk : nameOk sc x .globalImplicit = true) (hi : nmTab.lookup x = some i) (hs : noStar (e :: es) = true)
    (h : ES G n sc (e :: es) (fun vs H₁ => NC G n x vs Q H₁) ρ H) : EV G n sc (.Call (.Name x p) (e :: es) [] pos) Q ρ H := by
  obtain ⟨rfl, a, h1, h2⟩ := W.fn i hi
  obtain ⟨k1, k2, k3⟩ := nameOk_of hk
  refine EV.call k1 k2 k3 h1 h2 hs ?_
  exact fun A P D s pos r S => wp_mono (h A P D s pos r S) fun xs s₁ ⟨vs, H₁, hv, S₁, h₁⟩ => ⟨vs, H₁, hv, S₁, by
    obtain ⟨a', ps', body', scope', g1, g2, g3⟩ := h₁
    rw [h1] at g1; cases g1; exact g3⟩
theorem NC.def {Q : AV → AH → Prop} {x : Str} {vs : List AV} (i : Nat) (hi : nmTab.lookup x = some i) (hs : fnScopeOk (fnP (stAt i)) (fnS (stAt i)) = true) (hn : vs.length = (fnP (stAt i)).length)
    (h : SXs G n (fnS (stAt i)) (fnB (stAt i)) (DoneP Q) (rho0 (fnP (stAt i)) vs) H) : NC G (n + 1) x vs Q H := by
  obtain ⟨rfl, a, h1, h2⟩ := W.fn i hi
  exact ⟨a, _, _, _, h1, h2, CL.def h2 hs hn h⟩
end

set_option compiler.extract_closed false

noncomputable def LenIs (H : AH) (l : Addr) (m : Nat) : Prop := ∃ vs, H l = some (.list vs) ∧ vs.length = m ∧ m ≤ 2 ^ 24
theorem LenIs.map {α : Type} {H : AH} {l : Addr} {ws : List α} {f : α → AV} (h : H l = some (.list (ws.map f))) (hz : ws.length ≤ 2 ^ 24) : LenIs H l ws.length := ⟨_, h, by simp, hz⟩
theorem LenIs.of {H : AH} {l : Addr} {ws : List AV} (h : H l = some (.list ws)) (hz : ws.length ≤ 2 ^ 24) : LenIs H l ws.length := ⟨_, h, rfl, hz⟩
section
variable {G : Gx} {n : Nat} {sc : Scope} {ρ : Loc} {H : AH} {Q : AV → AH → Prop} (W : WW G)
include W
theorem EV.globT {x : Str} {p : Pos} {is : List Int} (hk : nameOk sc x .globalImplicit = true) (hv : tupTab.lookup x = some is) (h : ∀ a, TupInts G.base a is → Q (.ref a) H) : EV G n sc (.Name x p) Q ρ H := by
  obtain ⟨k1, k2, k3⟩ := nameOk_of hk
  obtain ⟨a, h1, h2⟩ := W.hTups x is (mem_lookup hv)
  exact EV.glob k1 k2 k3 ⟨_, h1, .ref a⟩ (h a h2)
theorem EV.lenW {x : Str} {p pos : Pos} {e : Expr} (hk : nameOk sc x .globalImplicit = true) (hv : bltTab.lookup x = some (.builtin "len")) (hs : noStar [e] = true)
    (h : EV G n sc e (fun v H₁ => ∃ l m, v = .ref l ∧ LenIs H₁ l m ∧ Q (.int (m : Nat)) H₁) ρ H) : EV G n sc (.Call (.Name x p) [e] [] pos) Q ρ H :=
  let ⟨k1, k2, k3⟩ := nameOk_of hk; EV.len k1 k2 k3 (W.hBlts x _ (mem_lookup hv)) hs (h.mono fun v H₁ ⟨l, m, e, ⟨vs, h1, h2, h3⟩, q⟩ => ⟨l, vs, e, h1, h2 ▸ h3, h2 ▸ q⟩)
theorem EV.minW {x : Str} {p pos : Pos} {e e' : Expr} (hk : nameOk sc x .globalImplicit = true) (hv : bltTab.lookup x = some (.builtin "min")) (hs : noStar [e, e'] = true)
    (h : EV G n sc e (fun v H₁ => EV G n sc e' (fun w H₂ => ∃ a b : Int, v = .int a ∧ w = .int b ∧ Q (.int (min a b)) H₂) ρ H₁) ρ H) : EV G n sc (.Call (.Name x p) [e, e'] [] pos) Q ρ H :=
  let ⟨k1, k2, k3⟩ := nameOk_of hk; EV.min2 k1 k2 k3 (W.hBlts x _ (mem_lookup hv)) hs h
theorem EV.listW {x : Str} {p pos : Pos} {e : Expr} (hk : nameOk sc x .globalImplicit = true) (hv : bltTab.lookup x = some (.type "list")) (hs : noStar [e] = true)
    (h : EV G n sc e (fun v H₁ => ∃ l vs, v = .ref l ∧ H₁ l = some (.list vs) ∧ vs.length ≤ 2 ^ 24 ∧ ∀ a, H₁ a = none → Q (.ref a) (H₁.set a (.list vs))) ρ H) : EV G n sc (.Call (.Name x p) [e] [] pos) Q ρ H :=
  let ⟨k1, k2, k3⟩ := nameOk_of hk; EV.list k1 k2 k3 (W.hBlts x _ (mem_lookup hv)) hs h
theorem EV.bytesW {x : Str} {p pos : Pos} {e : Expr} (hk : nameOk sc x .globalImplicit = true) (hv : bltTab.lookup x = some (.type "bytes")) (hs : noStar [e] = true)
    (h : EV G n sc e (fun v H₁ => ∃ l k, v = .ref l ∧ H₁ l = some (.list [.int k]) ∧ (0 ≤ k ∧ k < 256) ∧ Q (.byt (byteArr [k])) H₁) ρ H) : EV G n sc (.Call (.Name x p) [e] [] pos) Q ρ H :=
  let ⟨k1, k2, k3⟩ := nameOk_of hk; EV.bytes1 k1 k2 k3 (W.hBlts x _ (mem_lookup hv)) hs h
theorem IT.range1W {x : Str} {p pos : Pos} {e : Expr} {K : Src → AH → Prop} (hk : nameOk sc x .globalImplicit = true) (hv : bltTab.lookup x = some (.type "range")) (hs : noStar [e] = true)
    (h : EV G n sc e (fun v H₁ => ∃ b : Int, v = .int b ∧ (-(2 ^ 40) < b ∧ b < 2 ^ 40) ∧ K (.range 0 b.toNat) H₁) ρ H) : IT G n sc (.Call (.Name x p) [e] [] pos) K ρ H :=
  let ⟨k1, k2, k3⟩ := nameOk_of hk; IT.range1 k1 k2 k3 (W.hBlts x _ (mem_lookup hv)) hs h
theorem IT.range2W {x : Str} {p pos : Pos} {e e' : Expr} {K : Src → AH → Prop} (hk : nameOk sc x .globalImplicit = true) (hv : bltTab.lookup x = some (.type "range")) (hs : noStar [e, e'] = true)
    (h : EV G n sc e (fun v H₁ => EV G n sc e' (fun w H₂ => ∃ a b : Int, v = .int a ∧ w = .int b ∧ (0 ≤ a ∧ a < 2 ^ 40) ∧ (-(2 ^ 40) < b ∧ b < 2 ^ 40) ∧ K (.range a (b - a).toNat) H₂) ρ H₁) ρ H) : IT G n sc (.Call (.Name x p) [e, e'] [] pos) K ρ H :=
  let ⟨k1, k2, k3⟩ := nameOk_of hk; IT.range2 k1 k2 k3 (W.hBlts x _ (mem_lookup hv)) hs h
theorem IT.enumW {x : Str} {p pos : Pos} {e : Expr} {K : Src → AH → Prop} (hk : nameOk sc x .globalImplicit = true) (hv : bltTab.lookup x = some (.type "enumerate")) (hs : noStar [e] = true)
    (h : EV G n sc e (fun v H₁ => ∃ l vs, v = .ref l ∧ H₁ l = some (.list vs) ∧ K (.enum l vs) H₁) ρ H) : IT G n sc (.Call (.Name x p) [e] [] pos) K ρ H :=
  let ⟨k1, k2, k3⟩ := nameOk_of hk; IT.enum k1 k2 k3 (W.hBlts x _ (mem_lookup hv)) hs h
end

/- heaps -/
theorem set_old {H : AH} {a b : Addr} {o x : AO} (h : H a = none) (e : H b = some x) : (H.set a o) b = some x := by
  rw [AH.set_ne _ _ (by rintro rfl; rw [h] at e; cases e)]; exact e
theorem set_other {H : AH} {a b : Addr} {o : AO} {x : Option AO} (h : b ≠ a) (e : H b = x) : (H.set a o) b = x := (AH.set_ne _ _ h).trans e
theorem set_none {H : AH} {a b : Addr} {o : AO} (h : (H.set a o) b = none) : b ≠ a ∧ H b = none := by
  by_cases hb : b = a
  · subst hb; rw [AH.set_self] at h; cases h
  · exact ⟨hb, by rw [AH.set_ne _ _ hb] at h; exact h⟩
theorem ne_ns {H : AH} {a b : Addr} {o : AO} (e : H a = some o) (h : H b = none) : a ≠ b := by rintro rfl; rw [h] at e; cases e
theorem ne_sn {H : AH} {a b : Addr} {o : AO} (h : H a = none) (e : H b = some o) : a ≠ b := by rintro rfl; rw [h] at e; cases e
theorem ne_ss {H : AH} {a b : Addr} {o o' : AO} (h : H a = some o) (e : H b = some o') (k : o ≠ o') : a ≠ b := by rintro rfl; rw [h] at e; cases e; exact k rfl
theorem le_set {H : AH} {a : Addr} {o : AO} (h : H a = none) : H.le (H.set a o) := fun b x e => set_old h e
theorem le_under {H : AH} {a t : Addr} {o o' : AO} (h : H t = none) : (H.set a o).le ((H.set t o').set a o) := fun b x e => by
  by_cases hb : b = a
  · subst hb; rw [AH.set_self] at e ⊢; exact e
  · rw [AH.set_ne _ _ hb] at e ⊢; exact set_old h e
theorem set_set {H : AH} {a : Addr} {o o' : AO} : (H.set a o).set a o' = H.set a o' := by
  funext b; unfold AH.set; split <;> rfl

section
variable {G : Gx} {n : Nat} {sc : Scope} {ρ : Loc} {H : AH} {Q : AV → AH → Prop}
/- lists of numbers, flags -/
theorem GI.ints {l : Addr} {ws : List Int} {k : Nat} {w : Int} (hl : H l = some (.list (ws.map .int))) (hw : ws[k]? = some w) (hk : k < 2 ^ 40) (h : Q (.int w) H) : GI G n (.ref l) (.int k) Q H :=
  GI.list hl (by (first | lia | omega)) (by (first | lia | omega)) (v := .int w) (by rw [Int.toNat_natCast, List.getElem?_map, hw]; rfl) h
theorem GI.bools {l : Addr} {ws : List Bool} {k : Nat} {w : Bool} (hl : H l = some (.list (ws.map .bool))) (hw : ws[k]? = some w) (hk : k < 2 ^ 40) (h : Q (.bool w) H) : GI G n (.ref l) (.int k) Q H :=
  GI.list hl (by (first | lia | omega)) (by (first | lia | omega)) (v := .bool w) (by rw [Int.toNat_natCast, List.getElem?_map, hw]; rfl) h
/-- o[i], o a list -/
theorem EV.subL {value slice : Expr} {p : Pos} (hs : ∀ o i, subscripted slice false o i = operate [o, i] (getItem o i))
    (h : EV G n sc value (fun a H₁ => EV G n sc slice (fun b H₂ => ∃ r vs, a = .ref r ∧ (H₂ r = some (.list vs) ∨ H₂ r = some (.tup vs)) ∧ GI G n a b Q H₂) ρ H₁) ρ H) : EV G n sc (.Subscript value slice p) Q ρ H := by
  refine EV.sub hs (h.mono fun a H₁ h₁ => h₁.mono fun b H₂ ⟨r, vs, e, hl, q⟩ => ⟨⟨r, e, ?_⟩, q⟩)
  rcases hl with hl | hl
  · exact .inl ⟨vs, hl⟩
  · exact .inr ⟨vs, hl⟩
theorem LocSet_ne {ρ : Loc} {x y : Str} {v : AV} {o : Option AV} (h : (y == x) = false) (e : ρ y = o) : (ρ.set x v) y = o := by
  unfold Loc.set; rw [if_neg (by simpa using h)]; exact e
theorem LocSet_self {ρ : Loc} {x : Str} {v : AV} : (ρ.set x v) x = some v := by unfold Loc.set; rw [if_pos rfl]
theorem ife_t {a b : Prop} (h : a) : if true = true then a else b := by rw [if_pos rfl]; exact h
theorem ife_f {a b : Prop} (h : b) : if false = true then a else b := by rw [if_neg Bool.false_ne_true]; exact h
theorem ife_b {c : Bool} {p q : Prop} (h1 : c = true → p) (h2 : c = false → q) : if c = true then p else q := by
  cases c with
  | true => rw [if_pos rfl]; exact h1 rfl
  | false => rw [if_neg Bool.false_ne_true]; exact h2 rfl
theorem ife_n {c : Bool} {p q : Prop} (h1 : c = false → p) (h2 : c = true → q) : if (!c) = true then p else q := ife_b (fun h => h1 (by simpa using h)) fun h => h2 (by simpa using h)
theorem ife_eq {a b : Int} {p q : Prop} (h1 : a = b → p) (h2 : ¬ a = b → q) : if (a == b) = true then p else q := ife_b (fun h => h1 (by simpa using h)) fun h => h2 (by simpa using h)
theorem ife_ne {a b : Int} {p q : Prop} (h1 : ¬ a = b → p) (h2 : a = b → q) : if (a != b) = true then p else q := ife_b (fun h => h1 (by simpa using h)) fun h => h2 (by simpa using h)
theorem ife_d {c : Prop} {_ : Decidable c} {p q : Prop} (h1 : c → p) (h2 : ¬ c → q) : if decide c = true then p else q := ife_b (fun h => h1 (by simpa using h)) fun h => h2 (by simpa using h)
end

local macro_rules | `(tactic| wtm_at "m_lv") => `(tactic| first | assumption | rfl)
/-- one step that the text alone decides -/
local macro_rules | `(tactic| wtm_at "m_g0") => `(tactic| ((with_reducible show SXs _ _ _ _ _ _ _); first
  | ((with_reducible refine' SXs.cons ?_))
  | ((with_reducible refine' SXs.nil ?_))))
local macro_rules | `(tactic| wtm_at "m_g1") => `(tactic| ((with_reducible show SX _ _ _ _ _ _ _); first
  | ((with_reducible refine' SX.ret ?_))
  | ((with_reducible refine' SX.ife ?_))
  | ((with_reducible refine' SX.assign1 ?k1 ?k2 ?k3 ?_); (case k1 | k2 | k3 => exact fun _ => rfl))
  | ((with_reducible refine' SX.swap ?k1 ?k2 ?k3 ?k4 ?_); (case k1 | k2 => exact fun _ => rfl); (case k3 | k4 => rfl))
  | ((with_reducible refine' SX.brk ?_))
  | ((with_reducible refine' SX.cont ?_))
  | ((with_reducible refine' SX.expr ?k1 ?k2 ?_); (case k1 => rfl); (case k2 => exact fun _ => rfl))))
local macro_rules | `(tactic| wtm_at "m_g2") => `(tactic| ((with_reducible show AS _ _ _ _ _ _ _ _ _); first
  | ((with_reducible refine' AS.name ?k1 ?_); (case k1 => rfl))
  | ((with_reducible refine' AS.item ?_))
  | ((with_reducible refine' AS.attr ?_))))
local macro_rules | `(tactic| wtm_at "m_g3") => `(tactic| ((with_reducible show ASs _ _ _ _ _ _ _ _ _); first
  | ((with_reducible refine' ASs.nil ?_))
  | ((with_reducible refine' ASs.cons ?k1 ?_); (case k1 => exact fun _ => rfl))))
local macro_rules | `(tactic| wtm_at "m_g4") => `(tactic| ((with_reducible show EV _ _ _ _ _ _ _); first
  | ((with_reducible refine' EV.locN ?k1 ?k2 ?_); (case k1 => rfl); (case k2 => wtm_at "m_lv"))
  | ((with_reducible refine' EV.celN ?k1 ?k2 ?_); (case k1 => rfl); (case k2 => wtm_at "m_lv"))
  | ((with_reducible refine' EV.globI ‹WW _› ?k1 ?k2 ?_); (case k1 | k2 => rfl))
  | ((with_reducible refine' EV.globT ‹WW _› ?k1 ?k2 ?_); (case k1 | k2 => rfl))
  | ((with_reducible refine' EV.int ?_))
  | ((with_reducible refine' EV.str ?_))
  | ((with_reducible refine' EV.bool ?_))
  | ((with_reducible refine' EV.byt ?_))
  | ((with_reducible refine' EV.bin ?_))
  | ((with_reducible refine' EV.un ?_))
  | ((with_reducible refine' EV.cmp ?k1 ?_); (case k1 => rfl))
  | ((with_reducible refine' EV.ife ?_))
  | ((with_reducible refine' EV.lst ?_))
  | ((with_reducible refine' EV.tup ?_))
  | ((with_reducible refine' EV.subL ?k1 ?_); (case k1 => exact fun _ _ => rfl))
  | ((with_reducible refine' EV.callN ‹WW _› ?k1 ?k2 ?k3 ?_); (case k1 | k2 | k3 => rfl))
  | ((with_reducible refine' EV.lenW ‹WW _› ?k1 ?k2 ?k3 ?_); (case k1 | k2 | k3 => rfl))
  | ((with_reducible refine' EV.minW ‹WW _› ?k1 ?k2 ?k3 ?_); (case k1 | k2 | k3 => rfl))
  | ((with_reducible refine' EV.listW ‹WW _› ?k1 ?k2 ?k3 ?_); (case k1 | k2 | k3 => rfl))
  | ((with_reducible refine' EV.bytesW ‹WW _› ?k1 ?k2 ?k3 ?_); (case k1 | k2 | k3 => rfl))
  | ((with_reducible refine' EV.append ?k1 ?k2 ?k3 ?k4 ?_); (case k1 | k3 | k4 => rfl); (case k2 => exact fun _ _ => rfl))
  | ((with_reducible refine' EV.popAt ?k1 ?k2 ?k3 ?k4 ?_); (case k1 | k3 | k4 => rfl); (case k2 => exact fun _ _ => rfl))
  | ((with_reducible refine' EV.extend ?k1 ?k2 ?k3 ?k4 ?_); (case k1 | k3 | k4 => rfl); (case k2 => exact fun _ _ => rfl))
  | ((with_reducible refine' EV.pop ?k1 ?k2 ?k3 ?_); (case k1 | k3 => rfl); (case k2 => exact fun _ _ => rfl))))
local macro_rules | `(tactic| wtm_at "m_g5") => `(tactic| ((with_reducible show ES _ _ _ _ _ _ _); first
  | ((with_reducible refine' ES.nil ?_))
  | ((with_reducible refine' ES.cons ?k1 ?_); (case k1 => exact fun _ => rfl))))
local macro_rules | `(tactic| wtm_at "m_g6") => `(tactic| ((with_reducible show TV _ _ _ _ _ _ _); first
  | ((with_reducible refine' TV.cmp ?k1 ?_); (case k1 => rfl))
  | ((with_reducible refine' TV.not ?_))
  | ((with_reducible refine' TV.bool ?_))
  | ((with_reducible refine' TV.val ?k1 ?_); (case k1 => exact fun _ _ => rfl))))
local macro_rules | `(tactic| wtm_at "m_g7") => `(tactic| ((with_reducible show TS _ _ _ _ _ _ _ _); first
  | ((with_reducible refine' TS.andCons ?_))
  | ((with_reducible refine' TS.orCons ?_))
  | ((with_reducible refine' TS.andNil ?_))
  | ((with_reducible refine' TS.orNil ?_))))
local macro_rules | `(tactic| wtm_at "m_g8") => `(tactic| ((with_reducible show BO _ _ _ _ _ _ _); first
  | ((with_reducible refine' BO.add ?_))
  | ((with_reducible refine' BO.sub ?_))
  | ((with_reducible refine' BO.and ?_))
  | ((with_reducible refine' BO.or ?_))))
local macro_rules | `(tactic| wtm_at "m_g9") => `(tactic| ((with_reducible show UO _ _ _ _ _ _); first
  | ((with_reducible refine' UO.inv ?_))
  | ((with_reducible refine' UO.neg ?_))))
local macro_rules | `(tactic| wtm_at "m_g10") => `(tactic| ((with_reducible show CO _ _ _ _ _ _ _); first
  | ((with_reducible refine' CO.eqi ?_))
  | ((with_reducible refine' CO.nei ?_))
  | ((with_reducible refine' CO.lti ?_))
  | ((with_reducible refine' CO.gti ?_))
  | ((with_reducible refine' CO.gei ?_))
  | ((with_reducible refine' CO.eqs ?_))
  | ((with_reducible refine' CO.nes ?_))))
local macro_rules | `(tactic| wtm_at "m_g11") => `(tactic| ((with_reducible show TR _ _ _ _ _); first
  | ((with_reducible refine' TR.bool ?_))))
local macro_rules | `(tactic| wtm_at "m_w1") => `(tactic| first | wtm_at "m_g0" | wtm_at "m_g1" | wtm_at "m_g2" | wtm_at "m_g3" | wtm_at "m_g4" | wtm_at "m_g5" | wtm_at "m_g6" | wtm_at "m_g7" | wtm_at "m_g8" | wtm_at "m_g9" | wtm_at "m_g10" | wtm_at "m_g11")
local macro_rules | `(tactic| wtm_at "m_wk") => `(tactic| repeat' (wtm_at "m_w1"))
local macro_rules | `(tactic| wtm_at "m_open") => `(tactic| (conv => (arg 3; whnf)); (conv => (arg 4; whnf)))



theorem and_mask {x : Int} (h : 0 ≤ x) (k : Nat) : Builtin.bitAnd x ((2 ^ k : Nat) - 1 : Int) = x % (2 ^ k : Nat) := by
  have hp : 0 < 2 ^ k := Nat.two_pow_pos k
  unfold Builtin.bitAnd
  rw [decide_eq_true h, decide_eq_true (show (0 : Int) ≤ ((2 ^ k : Nat) : Int) - 1 by (first | lia | omega))]
  dsimp only
  obtain ⟨m, rfl⟩ := Int.eq_ofNat_of_zero_le h
  have e : (((2 ^ k : Nat) : Int) - 1).toNat = 2 ^ k - 1 := by (first | lia | omega)
  rw [e, Int.toNat_natCast, Nat.and_two_pow_sub_one_eq_mod]
  exact Int.natCast_emod _ _
theorem fld {w : Int} (h : 0 ≤ w) (p k : Nat) : Builtin.bitAnd (w.fdiv (2 ^ p : Nat)) ((2 ^ k : Nat) - 1 : Int) = w / (2 ^ p : Nat) % (2 ^ k : Nat) := by
  rw [Int.fdiv_eq_ediv_of_nonneg _ (Int.natCast_nonneg _)]
  exact and_mask (Int.ediv_nonneg h (Int.natCast_nonneg _)) k
theorem fld_op {w : Int} (h : 0 ≤ w) : Builtin.bitAnd (w.fdiv (2 ^ 0)) (1 * 2 ^ 6 - 1) = w % 64 := by
  have := fld h 0 6; simpa using this
theorem fld_c {w : Int} (h : 0 ≤ w) : Builtin.bitAnd (w.fdiv (2 ^ 14)) (1 * 2 ^ 9 - 1) = w / 16384 % 512 := by
  have := fld h 14 9; simpa using this
theorem fld_bx {w : Int} (h : 0 ≤ w) : Builtin.bitAnd (w.fdiv (2 ^ 14)) (1 * 2 ^ 18 - 1) = w / 16384 % 262144 := by
  have := fld h 14 18; simpa using this

/-- with_field, on naturals -/
theorem wf_nat {w v p k : Nat} (hw : w < 2 ^ 32) (hv : v < 2 ^ k) (hpk : p + k ≤ 32) :
    Builtin.bitOr (Builtin.bitAnd (Builtin.bitAnd (w : Int) (Builtin.bitNot (((2 ^ k : Nat) - 1 : Int) * (2 ^ p : Nat)))) 4294967295) (Builtin.bitAnd ((v : Int) * (2 ^ p : Nat)) (((2 ^ k : Nat) - 1 : Int) * (2 ^ p : Nat)))
      = (w : Int) - (w / 2 ^ p % 2 ^ k * 2 ^ p : Nat) + (v * 2 ^ p : Nat) := by
  have hk : 0 < 2 ^ k := Nat.two_pow_pos k
  have hp : 0 < 2 ^ p := Nat.two_pow_pos p
  have em : (((2 ^ k : Nat) : Int) - 1) * ((2 ^ p : Nat) : Int) = (((2 ^ k - 1) * 2 ^ p : Nat) : Int) := by
    rw [Int.natCast_mul, Int.natCast_sub hk]; rfl
  rw [em]
  generalize hm : (2 ^ k - 1) * 2 ^ p = mask
  have hand : ∀ x : Nat, x &&& mask = x / 2 ^ p % 2 ^ k * 2 ^ p := by
    intro x
    have e1 : mask = (2 ^ k - 1) <<< p := by rw [← hm, Nat.shiftLeft_eq]
    rw [e1]
    apply Nat.eq_of_testBit_eq
    intro i
    rw [Nat.testBit_and, Nat.testBit_shiftLeft, ← Nat.shiftLeft_eq, Nat.testBit_shiftLeft, Nat.testBit_mod_two_pow, Nat.testBit_two_pow_sub_one, ← Nat.shiftRight_eq_div_pow, Nat.testBit_shiftRight]
    by_cases h : p ≤ i
    · have : p + (i - p) = i := by (first | lia | omega)
      rw [this]; simp [h, Bool.and_comm]
    · simp [h]
  have i1 : Builtin.bitAnd (w : Int) (Builtin.bitNot (mask : Int)) = ((w - (w &&& mask) : Nat) : Int) := by
    unfold Builtin.bitAnd Builtin.bitNot
    rw [decide_eq_true (show (0 : Int) ≤ (w : Int) by (first | lia | omega)), decide_eq_false (show ¬ (0 : Int) ≤ -(mask : Int) - 1 by (first | lia | omega))]
    dsimp only
    have : (-(-(mask : Int) - 1) - 1).toNat = mask := by (first | lia | omega)
    rw [this, Int.toNat_natCast]
    have := @Nat.and_le_left w mask
    (first | lia | omega)
  have hsub : w - (w &&& mask) ≤ w := Nat.sub_le _ _
  have i2 : Builtin.bitAnd ((w - (w &&& mask) : Nat) : Int) 4294967295 = ((w - (w &&& mask) : Nat) : Int) := by
    have := and_mask (x := ((w - (w &&& mask) : Nat) : Int)) (by (first | lia | omega)) 32
    have e : (((2 ^ 32 : Nat) : Int) - 1) = 4294967295 := by decide
    rw [e] at this
    rw [this]; exact Int.emod_eq_of_lt (by (first | lia | omega)) (by (first | lia | omega))
  have ev : ((v : Int) * ((2 ^ p : Nat) : Int)) = ((v * 2 ^ p : Nat) : Int) := by rw [Int.natCast_mul]
  have i3 : Builtin.bitAnd ((v * 2 ^ p : Nat) : Int) (mask : Int) = ((v * 2 ^ p : Nat) : Int) := by
    unfold Builtin.bitAnd
    rw [decide_eq_true (show (0 : Int) ≤ ((v * 2 ^ p : Nat) : Int) by (first | lia | omega)), decide_eq_true (show (0 : Int) ≤ (mask : Int) by (first | lia | omega))]
    dsimp only
    rw [Int.toNat_natCast, Int.toNat_natCast, hand, Nat.mul_div_cancel _ hp, Nat.mod_eq_of_lt hv]
  rw [i1, i2, ev, i3]
  have i4 : ∀ a b : Nat, Builtin.bitOr (a : Int) (b : Int) = ((a ||| b : Nat) : Int) := by
    intro a b
    unfold Builtin.bitOr Builtin.bitAnd Builtin.bitNot
    rw [decide_eq_false (show ¬ (0 : Int) ≤ -(a : Int) - 1 by (first | lia | omega)), decide_eq_false (show ¬ (0 : Int) ≤ -(b : Int) - 1 by (first | lia | omega))]
    dsimp only
    have e1 : (-(-(a : Int) - 1) - 1).toNat = a := by (first | lia | omega)
    have e2 : (-(-(b : Int) - 1) - 1).toNat = b := by (first | lia | omega)
    rw [e1, e2]; (first | lia | omega)
  rw [i4]
  -- disjoint bits
  have hle : w &&& mask ≤ w := Nat.and_le_left
  have hd : w / 2 ^ p % 2 ^ k * 2 ^ p ≤ w := by rw [← hand]; exact hle
  have hor : (w - (w &&& mask)) ||| (v * 2 ^ p) = (w - (w &&& mask)) + v * 2 ^ p := by
    rw [hand]
    -- w - field = hi * 2^(p+k) + lo
    have e1 : w - w / 2 ^ p % 2 ^ k * 2 ^ p = (w / 2 ^ p / 2 ^ k * 2 ^ k) * 2 ^ p + w % 2 ^ p := by
      have a1 := Nat.div_add_mod w (2 ^ p)
      have a2 := Nat.div_add_mod (w / 2 ^ p) (2 ^ k)
      have a3 : w = (2 ^ k * (w / 2 ^ p / 2 ^ k) + w / 2 ^ p % 2 ^ k) * 2 ^ p + w % 2 ^ p := by rw [a2, Nat.mul_comm]; exact a1.symm
      rw [Nat.add_mul] at a3
      have a4 : w / 2 ^ p / 2 ^ k * 2 ^ k * 2 ^ p = 2 ^ k * (w / 2 ^ p / 2 ^ k) * 2 ^ p := by rw [Nat.mul_comm (2 ^ k)]
      (first | lia | omega)
    rw [e1]
    have lo : w % 2 ^ p < 2 ^ p := Nat.mod_lt _ hp
    have s1 : (w / 2 ^ p / 2 ^ k * 2 ^ k) * 2 ^ p + w % 2 ^ p = (w / 2 ^ p / 2 ^ k * 2 ^ k) <<< p ||| w % 2 ^ p := by
      rw [← Nat.shiftLeft_add_eq_or_of_lt lo, Nat.shiftLeft_eq]
    have s2 : (w / 2 ^ p / 2 ^ k * 2 ^ k) * 2 ^ p + w % 2 ^ p + v * 2 ^ p = (w / 2 ^ p / 2 ^ k * 2 ^ k + v) <<< p ||| w % 2 ^ p := by
      rw [← Nat.shiftLeft_add_eq_or_of_lt lo, Nat.shiftLeft_eq, Nat.add_mul]; (first | lia | omega)
    rw [s2, s1]
    have s3 : w / 2 ^ p / 2 ^ k * 2 ^ k + v = (w / 2 ^ p / 2 ^ k * 2 ^ k) ||| v := by
      rw [← Nat.shiftLeft_eq, Nat.shiftLeft_add_eq_or_of_lt hv]
    rw [s3, Nat.shiftLeft_or_distrib, ← Nat.shiftLeft_eq v p, Nat.or_assoc, Nat.or_assoc, Nat.or_comm (w % 2 ^ p)]
  rw [hor, hand]
  (first | lia | omega)
theorem wf_sbx {w : Int} (h : 0 ≤ w ∧ w < 4294967296) {v : Int} (hv : 0 ≤ v ∧ v < 262144) :
    Builtin.bitOr (Builtin.bitAnd (Builtin.bitAnd w (Builtin.bitNot ((1 * 2 ^ 18 - 1) * 2 ^ 14))) 4294967295) (Builtin.bitAnd (v * 2 ^ 14) ((1 * 2 ^ 18 - 1) * 2 ^ 14)) = w % 16384 + v * 16384 := by
  obtain ⟨a, rfl⟩ := Int.eq_ofNat_of_zero_le h.1
  obtain ⟨b, rfl⟩ := Int.eq_ofNat_of_zero_le hv.1
  have := wf_nat (w := a) (v := b) (p := 14) (k := 18) (by (first | lia | omega)) (by (first | lia | omega)) (by decide)
  have e : ((1 * 2 ^ 18 - 1) * 2 ^ 14 : Int) = (((2 ^ 18 : Nat) : Int) - 1) * ((2 ^ 14 : Nat) : Int) := by decide
  have e2 : ((b : Int) * 2 ^ 14) = (b : Int) * ((2 ^ 14 : Nat) : Int) := rfl
  rw [e, e2, this]
  (first | lia | omega)
theorem wf_c {w : Int} (h : 0 ≤ w ∧ w < 4294967296) :
    Builtin.bitOr (Builtin.bitAnd (Builtin.bitAnd w (Builtin.bitNot ((1 * 2 ^ 9 - 1) * 2 ^ 14))) 4294967295) (Builtin.bitAnd (0 * 2 ^ 14) ((1 * 2 ^ 9 - 1) * 2 ^ 14)) = w - w / 16384 % 512 * 16384 := by
  obtain ⟨a, rfl⟩ := Int.eq_ofNat_of_zero_le h.1
  have := wf_nat (w := a) (v := 0) (p := 14) (k := 9) (by (first | lia | omega)) (by decide) (by decide)
  have e : ((1 * 2 ^ 9 - 1) * 2 ^ 14 : Int) = (((2 ^ 9 : Nat) : Int) - 1) * ((2 ^ 14 : Nat) : Int) := by decide
  have e2 : ((0 : Int) * 2 ^ 14) = ((0 : Nat) : Int) * ((2 ^ 14 : Nat) : Int) := rfl
  rw [e, e2, this]
  (first | lia | omega)

section
variable {G : Gx} {n : Nat} {H : AH} {Q : AV → AH → Prop} (W : WW G)
include W
theorem field_nc {w p k : Int} (hp : 0 ≤ p) (hk : 0 ≤ k ∧ k ≤ 1000) (q : Q (.int (Builtin.bitAnd (w.fdiv (2 ^ p.toNat)) (1 * 2 ^ k.toNat - 1))) H) : NC G (n + 1) "field" [.int w, .int p, .int k] Q H := by
  refine NC.def W 28 rfl rfl rfl ?_
  wtm_at "m_open"
  wtm_at "m_wk"
  refine BO.shr hp ?_
  wtm_at "m_wk"
  refine BO.shl hk.1 hk.2 (by decide) ?_
  wtm_at "m_wk"
  exact .ret q
theorem get_op_nc {w : Int} (h : 0 ≤ w) (q : Q (.int (w % 64)) H) : NC G (n + 2) "get_op" [.int w] Q H := by
  refine NC.def W 31 rfl rfl rfl ?_
  wtm_at "m_open"
  wtm_at "m_wk"
  exact field_nc W (by decide) (by decide) (.ret (by rw [← fld_op h] at q; exact q))
theorem get_c_nc {w : Int} (h : 0 ≤ w) (q : Q (.int (w / 16384 % 512)) H) : NC G (n + 2) "get_c" [.int w] Q H := by
  refine NC.def W 32 rfl rfl rfl ?_
  wtm_at "m_open"
  wtm_at "m_wk"
  exact field_nc W (by decide) (by decide) (.ret (by rw [← fld_c h] at q; exact q))
theorem get_bx_nc {w : Int} (h : 0 ≤ w) (q : Q (.int (w / 16384 % 262144)) H) : NC G (n + 2) "get_bx" [.int w] Q H := by
  refine NC.def W 33 rfl rfl rfl ?_
  wtm_at "m_open"
  wtm_at "m_wk"
  exact field_nc W (by decide) (by decide) (.ret (by rw [← fld_bx h] at q; exact q))
theorem get_sbx_nc {w : Int} (h : 0 ≤ w) (q : Q (.int (w / 16384 % 262144 - 131071)) H) : NC G (n + 3) "get_sbx" [.int w] Q H := by
  refine NC.def W 34 rfl rfl rfl ?_
  wtm_at "m_open"
  wtm_at "m_wk"
  refine get_bx_nc W h ?_
  wtm_at "m_wk"
  exact .ret q
theorem with_field_nc {w v p k : Int} (hp : 0 ≤ p ∧ p ≤ 1000) (hk : 0 ≤ k ∧ k ≤ 40) (hv : v.natAbs < 2 ^ 64)
    (q : Q (.int (Builtin.bitOr (Builtin.bitAnd (Builtin.bitAnd w (Builtin.bitNot ((1 * 2 ^ k.toNat - 1) * 2 ^ p.toNat))) 4294967295) (Builtin.bitAnd (v * 2 ^ p.toNat) ((1 * 2 ^ k.toNat - 1) * 2 ^ p.toNat)))) H) :
    NC G (n + 1) "with_field" [.int w, .int v, .int p, .int k] Q H := by
  refine NC.def W 29 rfl rfl rfl ?_
  wtm_at "m_open"
  wtm_at "m_wk"
  refine BO.shl hk.1 (by (first | lia | omega)) (by decide) ?_
  wtm_at "m_wk"
  refine BO.shl hp.1 hp.2 ?_ ?_
  · have h1 : k.toNat ≤ 40 := by (first | lia | omega)
    have h2 : 2 ^ k.toNat ≤ 2 ^ 40 := Nat.pow_le_pow_right (by decide) h1
    have h3 : ((2 : Int) ^ k.toNat) = ((2 ^ k.toNat : Nat) : Int) := (Int.natCast_pow 2 _).symm
    rw [h3]; generalize 2 ^ k.toNat = m at h2 ⊢; (first | lia | omega)
  wtm_at "m_wk"
  refine BO.shl hp.1 hp.2 hv ?_
  wtm_at "m_wk"
  exact .ret q
theorem set_c_nc {w : Int} (h : 0 ≤ w ∧ w < 4294967296) (q : Q (.int (w - w / 16384 % 512 * 16384)) H) : NC G (n + 2) "set_c" [.int w, .int 0] Q H := by
  refine NC.def W 35 rfl rfl rfl ?_
  wtm_at "m_open"
  wtm_at "m_wk"
  exact with_field_nc W (by decide) (by decide) (by decide) (.ret (by rw [← wf_c h] at q; exact q))
theorem set_bx_nc {w v : Int} (h : 0 ≤ w ∧ w < 4294967296) (hv : 0 ≤ v ∧ v < 262144) (q : Q (.int (w % 16384 + v * 16384)) H) : NC G (n + 2) "set_bx" [.int w, .int v] Q H := by
  refine NC.def W 36 rfl rfl rfl ?_
  wtm_at "m_open"
  wtm_at "m_wk"
  exact with_field_nc W (by decide) (by decide) (by (first | lia | omega)) (.ret (by rw [← wf_sbx h hv] at q; exact q))
theorem set_sbx_nc {w v : Int} (h : 0 ≤ w ∧ w < 4294967296) (hv : -131071 ≤ v ∧ v < 131073) (q : Q (.int (w % 16384 + (v + 131071) * 16384)) H) : NC G (n + 3) "set_sbx" [.int w, .int v] Q H := by
  refine NC.def W 37 rfl rfl rfl ?_
  wtm_at "m_open"
  wtm_at "m_wk"
  refine set_bx_nc W h (by (first | lia | omega)) (.ret q)
theorem create_ret_nc (q : Q (.int 8388638) H) : NC G (n + 1) "create_abc" [.int 30, .int 0, .int 1, .int 0] Q H := by
  refine NC.def W 30 rfl rfl rfl ?_
  wtm_at "m_open"
  wtm_at "m_wk"
  refine BO.shl (by decide) (by decide) (by decide) ?_
  wtm_at "m_wk"
  refine BO.shl (by decide) (by decide) (by decide) ?_
  wtm_at "m_wk"
  refine BO.shl (by decide) (by decide) (by decide) ?_
  wtm_at "m_wk"
  refine BO.shl (by decide) (by decide) (by decide) ?_
  wtm_at "m_wk"
  exact .ret q
theorem is_jump_nc {w : Int} (h : 0 ≤ w) (q : Q (.bool (([22, 31, 32] : List Int).contains (w % 64))) H) : NC G (n + 3) "is_jump" [.int w] Q H := by
  refine NC.def W 49 rfl rfl rfl ?_
  wtm_at "m_open"
  wtm_at "m_wk"
  refine get_op_nc W h ?_
  wtm_at "m_wk"
  refine ⟨Nat.le_of_ble_eq_true rfl, fun a ha => ?_⟩
  refine CO.inTup (is := [22, 31, 32]) (AH.set_self _ _ _) ?_
  exact .retLe (le_set ha) q
theorem law_word_nc {o a b c : Int} (ha : 0 ≤ a ∧ a < 2 ^ 30) (hb : 0 ≤ b ∧ b < 2 ^ 30) (hc : 0 ≤ c ∧ c < 2 ^ 30) (q : Q (.int (o + a * 64 + c * 16384 + b * 8388608)) H) : NC G (n + 1) "_law_word" [.int o, .int a, .int b, .int c] Q H := by
  refine NC.def W 61 rfl rfl rfl ?_
  wtm_at "m_open"
  wtm_at "m_wk"
  refine BO.mul (by (first | lia | omega)) ?_
  wtm_at "m_wk"
  refine BO.mul (by (first | lia | omega)) ?_
  wtm_at "m_wk"
  refine BO.mul (by (first | lia | omega)) ?_
  wtm_at "m_wk"
  exact .ret q
theorem law_distance_nc {w : Int} (q : Q (.int (w / 16384 - 131071)) H) : NC G (n + 1) "_law_distance" [.int w] Q H := by
  refine NC.def W 63 rfl rfl rfl ?_
  wtm_at "m_open"
  wtm_at "m_wk"
  refine BO.fdiv (by decide) (by decide) ?_
  wtm_at "m_wk"
  exact .ret (by rw [Int.fdiv_eq_ediv_of_nonneg _ (by decide)]; exact q)
theorem law_parts_nc {w : Int} (q : ∀ t, H t = none → Q (.ref t) (H.set t (.tup [.int (w % 64), .int (w / 64 % 256), .int (w / 8388608 % 512), .int (w / 16384 % 512)]))) : NC G (n + 1) "_law_parts" [.int w] Q H := by
  refine NC.def W 62 rfl rfl rfl ?_
  wtm_at "m_open"
  wtm_at "m_wk"
  refine BO.mod (by decide) ?_
  wtm_at "m_wk"
  refine BO.fdiv (by decide) (by decide) ?_
  wtm_at "m_wk"
  refine BO.mod (by decide) ?_
  wtm_at "m_wk"
  refine BO.fdiv (by decide) (by decide) ?_
  wtm_at "m_wk"
  refine BO.mod (by decide) ?_
  wtm_at "m_wk"
  refine BO.fdiv (by decide) (by decide) ?_
  wtm_at "m_wk"
  refine BO.mod (by decide) ?_
  wtm_at "m_wk"
  refine ⟨Nat.le_of_ble_eq_true rfl, fun a ha => ?_⟩
  have := q a ha
  simp only [Int.fdiv_eq_ediv_of_nonneg _ (show (0 : Int) ≤ 64 by decide), Int.fdiv_eq_ediv_of_nonneg _ (show (0 : Int) ≤ 8388608 by decide), Int.fdiv_eq_ediv_of_nonneg _ (show (0 : Int) ≤ 16384 by decide), Int.fmod_eq_emod_of_nonneg _ (show (0 : Int) ≤ 64 by decide), Int.fmod_eq_emod_of_nonneg _ (show (0 : Int) ≤ 256 by decide), Int.fmod_eq_emod_of_nonneg _ (show (0 : Int) ≤ 512 by decide)]
  exact .ret this
end

set_option compiler.extract_closed false

noncomputable def clB : Stmt → List Stmt
  | .ClassDef _ _ _ b .. => b
  | _ => []
noncomputable def stIn (i j : Nat) : Stmt := (clB (stAt i)).getD j (.Pass ⟨0, 0, 0, 0⟩)
structure KA where
  (CP CL CH fP fL fH : Addr)
noncomputable def protoNames : List Str := ["code", "constants", "protos", "line_info", "locals", "upvalue_names", "source", "line_defined", "last_line", "upvalue_count", "param_count", "is_vararg", "max_stack", "number", "mark", "size"]
noncomputable def varNames : List Str := ["name", "start", "end"]
structure WK (G : Gx) (k : KA) : Prop where
  clsP : ClsAt G k.CP protoNames
  clsL : ClsAt G k.CL varNames
  gP : G.mg "Proto" = some (.ref k.CP)
  gL : G.mg "LocalVar" = some (.ref k.CL)
  gH : G.mg "HeapObject" = some (.ref k.CH)
  newP : NewAt G k.CP k.fP
  newL : NewAt G k.CL k.fL
  initH : ClsFn G k.CH "__init__" k.fH
  fnP_ : FnAt G k.fP (fnP (stIn 44 1)) (fnB (stIn 44 1)) (fnS (stIn 44 1))
  fnL_ : FnAt G k.fL (fnP (stIn 43 0)) (fnB (stIn 43 0)) (fnS (stIn 43 0))
  fnH_ : FnAt G k.fH (fnP (stIn 41 1)) (fnB (stIn 41 1)) (fnS (stIn 41 1))

/-- a function's body, as the heap holds it -/
structure PV where
  (d : Addr) (fs : List (Str × AV))
  (lc ll lk lv lp lu : Addr)
  (code lines : List Int) (consts locs kids upn : List AV)
  (src ldef last upc parc isv mx : AV)
noncomputable def PV.tab (P : PV) : List (Str × AV) := [("code", .ref P.lc), ("line_info", .ref P.ll), ("constants", .ref P.lk), ("locals", .ref P.lv), ("protos", .ref P.lp), ("upvalue_names", .ref P.lu), ("source", P.src), ("line_defined", P.ldef), ("last_line", P.last), ("upvalue_count", P.upc), ("param_count", P.parc), ("is_vararg", P.isv), ("max_stack", P.mx)]
structure PAt (k : KA) (H : AH) (x : Addr) (P : PV) : Prop where
  ix : H x = some (.inst k.CP P.d)
  id : H P.d = some (.flds P.fs)
  sz : P.fs.length ≤ 400
  tab : ∀ f v, P.tab.lookup f = some v → P.fs.lookup f = some v
  code : H P.lc = some (.list (P.code.map .int))
  lines : H P.ll = some (.list (P.lines.map .int))
  consts : H P.lk = some (.list P.consts)
  locs : H P.lv = some (.list P.locs)
  kids : H P.lp = some (.list P.kids)
  upn : H P.lu = some (.list P.upn)
theorem PAt.le {k : KA} {H H' : AH} {x : Addr} {P : PV} (h : PAt k H x P) (l : H.le H') : PAt k H' x P :=
  ⟨l _ _ h.ix, l _ _ h.id, h.sz, h.tab, l _ _ h.code, l _ _ h.lines, l _ _ h.consts, l _ _ h.locs, l _ _ h.kids, l _ _ h.upn⟩
/-- a variable -/
noncomputable def VAt (k : KA) (H : AH) (v : AV) (d : AV × AV × AV) : Prop := ∃ x dd fs, v = .ref x ∧ H x = some (.inst k.CL dd) ∧ H dd = some (.flds fs) ∧ fs.length ≤ 400 ∧ fs.lookup ("name" : Str) = some d.1 ∧ fs.lookup ("start" : Str) = some d.2.1 ∧ fs.lookup ("end" : Str) = some d.2.2
theorem VAt.le {k : KA} {H H' : AH} {v : AV} {d : AV × AV × AV} (h : VAt k H v d) (l : H.le H') : VAt k H' v d := by
  obtain ⟨x, dd, fs, e, h1, h2, h3, h4, h5, h6⟩ := h
  exact ⟨x, dd, fs, e, l _ _ h1, l _ _ h2, h3, h4, h5, h6⟩
theorem tab_names {P : PV} {f : Str} {v : AV} (h : P.tab.lookup f = some v) : f ∈ protoNames := by
  have h1 := mem_lookup h
  have h2 : f ∈ P.tab.map (·.1) := List.mem_map.mpr ⟨_, h1, rfl⟩
  have h3 : P.tab.map (·.1) = (["code", "line_info", "constants", "locals", "protos", "upvalue_names", "source", "line_defined", "last_line", "upvalue_count", "param_count", "is_vararg", "max_stack"] : List Str) := rfl
  rw [h3] at h2
  simp only [List.mem_cons, List.not_mem_nil, or_false] at h2
  unfold protoNames
  rcases h2 with h | h | h | h | h | h | h | h | h | h | h | h | h <;> rw [h] <;> simp

section
variable {G : Gx} {n : Nat} {sc : Scope} {ρ : Loc} {H : AH} {Q : AV → AH → Prop} {k : KA} (W : WW G) (WC : WK G k)
include WC
theorem EV.attrP {o : Expr} {f : Str} {p : Pos} (hb : ∀ env whole, attributeBase o f env whole = whole)
    (h : EV G n sc o (fun a H₁ => ∃ x P v, a = .ref x ∧ PAt k H₁ x P ∧ P.tab.lookup f = some v ∧ Q v H₁) ρ H) : EV G n sc (.Attribute o f p) Q ρ H :=
  EV.attr hb (h.mono fun a H₁ ⟨x, P, v, e, hP, ht, q⟩ => ⟨x, _, _, _, _, v, e, hP.ix, hP.id, WC.clsP, tab_names ht, hP.tab f v ht, q⟩)
theorem EV.attrV {o : Expr} {f : Str} {p : Pos} (hb : ∀ env whole, attributeBase o f env whole = whole)
    (h : EV G n sc o (fun a H₁ => ∃ d v, VAt k H₁ a d ∧ ([("name", d.1), ("start", d.2.1), ("end", d.2.2)] : List (Str × AV)).lookup f = some v ∧ Q v H₁) ρ H) : EV G n sc (.Attribute o f p) Q ρ H := by
  refine EV.attr hb (h.mono fun a H₁ ⟨d, v, ⟨x, dd, fs, e, h1, h2, h3, h4, h5, h6⟩, ht, q⟩ => ⟨x, _, _, fs, _, v, e, h1, h2, WC.clsL, ?_, ?_, q⟩)
  · have h1 := mem_lookup ht
    unfold varNames
    simp only [List.mem_cons, Prod.mk.injEq, List.not_mem_nil, or_false] at h1
    rcases h1 with h | h | h <;> rw [h.1] <;> simp
  · have h1 := mem_lookup ht
    simp only [List.mem_cons, Prod.mk.injEq, List.not_mem_nil, or_false] at h1
    rcases h1 with h | h | h
    · rw [h.1, h.2]; exact h4
    · rw [h.1, h.2]; exact h5
    · rw [h.1, h.2]; exact h6
omit WC
/-- a field that is there -/
noncomputable def GetAt (G : Gx) (H : AH) (a : AV) (f : Str) (v : AV) : Prop := ∃ x C d fs names, a = .ref x ∧ H x = some (.inst C d) ∧ H d = some (.flds fs) ∧ ClsAt G C names ∧ f ∈ names ∧ fs.lookup f = some v
theorem EV.attrG {o : Expr} {f : Str} {p : Pos} (hb : ∀ env whole, attributeBase o f env whole = whole) (h : EV G n sc o (fun a H₁ => ∃ v, GetAt G H₁ a f v ∧ Q v H₁) ρ H) : EV G n sc (.Attribute o f p) Q ρ H :=
  EV.attr hb (h.mono fun a H₁ ⟨v, ⟨x, C, d, fs, names, e, h1, h2, h3, h4, h5⟩, q⟩ => ⟨x, C, d, fs, names, v, e, h1, h2, h3, h4, h5, q⟩)
include WC
theorem GetAt.ofP {x : Addr} {P : PV} {f : Str} {v : AV} (hP : PAt k H x P) (ht : P.tab.lookup f = some v) : GetAt G H (.ref x) f v := ⟨x, _, _, _, _, rfl, hP.ix, hP.id, WC.clsP, tab_names ht, hP.tab f v ht⟩
theorem GetAt.name {a : AV} {d : AV × AV × AV} (h : VAt k H a d) : GetAt G H a "name" d.1 := by
  obtain ⟨x, dd, fs, e, h1, h2, h3, h4, h5, h6⟩ := h
  exact ⟨x, _, _, fs, _, e, h1, h2, WC.clsL, by unfold varNames; simp, h4⟩
theorem GetAt.start {a : AV} {d : AV × AV × AV} (h : VAt k H a d) : GetAt G H a "start" d.2.1 := by
  obtain ⟨x, dd, fs, e, h1, h2, h3, h4, h5, h6⟩ := h
  exact ⟨x, _, _, fs, _, e, h1, h2, WC.clsL, by unfold varNames; simp, h5⟩
theorem GetAt.end {a : AV} {d : AV × AV × AV} (h : VAt k H a d) : GetAt G H a "end" d.2.2 := by
  obtain ⟨x, dd, fs, e, h1, h2, h3, h4, h5, h6⟩ := h
  exact ⟨x, _, _, fs, _, e, h1, h2, WC.clsL, by unfold varNames; simp, h6⟩
end
local macro_rules | `(tactic| wtm_at "m_hp") => `(tactic| first | assumption | exact AH.set_self _ _ _ | exact set_old (by assumption) (by assumption) | exact set_other (by assumption) (by assumption))
local macro_rules | `(tactic| wtm_at "m_get") => `(tactic| first
  | refine ⟨_, GetAt.ofP ‹WK _ _› ‹PAt _ _ _ _› rfl, ?_⟩
  | refine ⟨_, GetAt.name ‹WK _ _› ‹VAt _ _ _ _›, ?_⟩
  | refine ⟨_, GetAt.start ‹WK _ _› ‹VAt _ _ _ _›, ?_⟩
  | refine ⟨_, GetAt.end ‹WK _ _› ‹VAt _ _ _ _›, ?_⟩
  | fail)
local macro_rules | `(tactic| wtm_at "m_sub") => `(tactic| first | refine ⟨_, _, rfl, .inl (by wtm_at "m_hp"), ?_⟩ | fail)
local macro_rules | `(tactic| wtm_at "m_w2") => `(tactic| first
  | wtm_at "m_w1"
  | ((with_reducible refine' EV.attrG ?k1 ?_); (case k1 => exact fun _ _ => rfl))
  | ((with_reducible refine' GI.ints ?k1 ?k2 ?k3 ?_); (case k1 => wtm_at "m_hp"); (case k2 => assumption); (case k3 => (first | lia | omega)))
  | ((with_reducible refine' GI.bools ?k1 ?k2 ?k3 ?_); (case k1 => wtm_at "m_hp"); (case k2 => assumption); (case k3 => (first | lia | omega)))
  | ((with_reducible refine' AS.tup ?k1 ?k2 ?k3 ?_); (case k1 => wtm_at "m_hp"); (case k2 | k3 => exact fun _ => rfl))
  | (with_reducible refine' ife_t ?_)
  | (with_reducible refine' ife_f ?_)
  | ((with_reducible show Exists _); wtm_at "m_get")
  | ((with_reducible show Exists _); first | refine ⟨_, _, rfl, LenIs.map (by wtm_at "m_hp") (by (first | lia | omega)), ?_⟩ | refine ⟨_, _, rfl, LenIs.of (by wtm_at "m_hp") (by (first | lia | omega)), ?_⟩ | fail)
  | ((with_reducible show Exists _); wtm_at "m_sub")
  | fail)
local macro_rules | `(tactic| wtm_at "m_go") => `(tactic| repeat' (wtm_at "m_w2"))


noncomputable def wsz (w : Int) : Nat := if w % 64 = 36 then 3 else if w % 64 = 34 ∧ w / 16384 % 512 = 0 then 2 else 1
noncomputable def isTest (o : Int) : Bool := ([23, 24, 26, 27, 33] : List Int).contains o
noncomputable def nexts (at_ w : Int) : List Int :=
  if w % 64 = 30 then [] else if w % 64 = 22 ∨ w % 64 = 32 then [at_ + 1 + (w / 16384 - 131071)] else if w % 64 = 31 then [at_ + 1 + (w / 16384 - 131071), at_ + 1]
  else if isTest (w % 64) = true then [at_ + 1, at_ + 2] else if w % 64 = 2 ∧ w / 16384 % 512 ≠ 0 then [at_ + 2] else [at_ + wsz w]
/-- what a closure asks of its function -/
noncomputable def ClosOk (k : KA) (H : AH) (P : PV) (w : Int) : Prop := w % 64 = 36 → w / 16384 % 262144 = 0 ∧ ∃ y Py, P.kids[0]? = some (.ref y) ∧ PAt k H y Py ∧ Py.upc = .int 2
theorem few {α : Type} {l : List α} (h : l.length ≤ 100) : l.length ≤ sizeLine := by rw [sizeLine_eq]; (first | lia | omega)
section
variable {G : Gx} {n : Nat} {H : AH} {Q : AV → AH → Prop} {k : KA} (W : WW G) (WC : WK G k)
include W WC
theorem words_of_nc {x : Addr} {P : PV} {pc : Nat} {w : Int} (hP : PAt k H x P) (hw : P.code[pc]? = some w) (h0 : 0 ≤ w) (hpc : pc < 2 ^ 40) (hc : ClosOk k H P w) (q : Q (.int (wsz w)) H) : NC G (n + 3) "words_of" [.ref x, .int pc] Q H := by
  refine NC.def W 47 rfl rfl rfl ?_
  have hcode := hP.code
  have hkids := hP.kids
  wtm_at "m_open"
  wtm_at "m_go"
  refine get_op_nc W h0 ?_
  wtm_at "m_go"
  refine ife_eq (fun e => ?_) fun e => ?_
  · obtain ⟨hb, y, Py, hk, hPy, hu⟩ := hc e
    wtm_at "m_go"
    refine get_bx_nc W h0 ?_
    rw [hb]
    wtm_at "m_go"
    refine GI.list hkids (by decide) (by decide) (v := .ref y) hk ?_
    wtm_at "m_go"
    rw [hu]
    wtm_at "m_go"
    have e3 : wsz w = 3 := by unfold wsz; rw [if_pos e]
    rw [e3] at q
    exact .ret q
  · wtm_at "m_go"
    refine get_op_nc W h0 ?_
    wtm_at "m_go"
    refine ife_eq (fun e2 => ?_) fun e2 => ?_
    · wtm_at "m_go"
      refine get_c_nc W h0 ?_
      wtm_at "m_go"
      refine ife_eq (fun e3 => ?_) fun e3 => ?_
      · wtm_at "m_go"
        have e3 : wsz w = 2 := by unfold wsz; rw [if_neg e, if_pos ⟨e2, e3⟩]
        rw [e3] at q
        exact .ret q
      · wtm_at "m_go"
        have e3 : wsz w = 1 := by unfold wsz; rw [if_neg e, if_neg (fun h => e3 h.2)]
        rw [e3] at q
        exact .ret q
    · wtm_at "m_go"
      have e3 : wsz w = 1 := by unfold wsz; rw [if_neg e, if_neg (fun h => e2 h.1)]
      rw [e3] at q
      exact .ret q
theorem target_nc {x : Addr} {P : PV} {pc : Nat} {w : Int} (hP : PAt k H x P) (hw : P.code[pc]? = some w) (h0 : 0 ≤ w ∧ w < 4294967296) (hpc : pc < 2 ^ 40) (q : Q (.int (pc + 1 + (w / 16384 - 131071))) H) : NC G (n + 4) "target" [.ref x, .int pc] Q H := by
  refine NC.def W 50 rfl rfl rfl ?_
  have hcode := hP.code
  wtm_at "m_open"
  wtm_at "m_go"
  refine get_sbx_nc W h0.1 ?_
  wtm_at "m_go"
  rw [show w / 16384 % 262144 = w / 16384 by (first | lia | omega)]
  exact .ret q
theorem next_places_nc {x : Addr} {P : PV} {pc : Nat} {w : Int} (hP : PAt k H x P) (hw : P.code[pc]? = some w) (h0 : 0 ≤ w ∧ w < 4294967296) (hpc : pc < 2 ^ 40) (hc : ClosOk k H P w) (h25 : w % 64 ≠ 25)
    (q : ∀ a, H a = none → Q (.ref a) (H.set a (.list ((nexts pc w).map .int)))) : NC G (n + 5) "next_places" [.ref x, .int pc] Q H := by
  refine NC.def W 51 rfl rfl rfl ?_
  have hcode := hP.code
  wtm_at "m_open"
  wtm_at "m_go"
  refine get_op_nc W h0.1 ?_
  wtm_at "m_go"
  refine words_of_nc W WC hP hw h0.1 hpc hc ?_
  wtm_at "m_go"
  refine ⟨_, _, rfl, ?_⟩
  wtm_at "m_go"
  refine ife_eq (fun e => ?_) fun e => ?_
  · wtm_at "m_go"
    rw [show nexts pc w = [] by unfold nexts; rw [if_pos e]] at q
    exact ⟨few (by simp), fun a ha => .ret (q a ha)⟩
  wtm_at "m_go"
  have jump : ∀ (Q : AV → AH → Prop), Q (.int (pc + 1 + (w / 16384 - 131071))) H → NC G (n + 4) "target" [.ref x, .int pc] Q H := fun Q q => target_nc W WC hP hw h0 hpc q
  refine ife_eq (fun e2 => ?_) fun e2 => ?_
  · wtm_at "m_go"
    refine jump _ ?_
    wtm_at "m_go"
    rw [show nexts pc w = [(pc : Int) + 1 + (w / 16384 - 131071)] by unfold nexts; rw [if_neg e, if_pos (.inl e2)]] at q
    exact ⟨few (by simp), fun a ha => .ret (q a ha)⟩
  wtm_at "m_go"
  refine ife_eq (fun e3 => ?_) fun e3 => ?_
  · wtm_at "m_go"
    refine jump _ ?_
    wtm_at "m_go"
    rw [show nexts pc w = [(pc : Int) + 1 + (w / 16384 - 131071)] by unfold nexts; rw [if_neg e, if_pos (.inr e3)]] at q
    exact ⟨few (by simp), fun a ha => .ret (q a ha)⟩
  have n1 : ¬ (w % 64 = 22 ∨ w % 64 = 32) := fun h => h.elim e2 e3
  wtm_at "m_go"
  refine ife_eq (fun e4 => ?_) fun e4 => ?_
  · wtm_at "m_go"
    refine jump _ ?_
    wtm_at "m_go"
    have e5 : wsz w = 1 := by unfold wsz; rw [if_neg (by (first | lia | omega)), if_neg (by (first | lia | omega))]
    rw [show nexts pc w = [(pc : Int) + 1 + (w / 16384 - 131071), (pc : Int) + (wsz w : Nat)] by unfold nexts; rw [if_neg e, if_neg n1, if_pos e4, e5]; rfl] at q
    exact ⟨few (by simp), fun a ha => .ret (q a ha)⟩
  wtm_at "m_go"
  intro a ha
  refine CO.inTop ha ?_
  wtm_at "m_go"
  have tests : isTest (w % 64) = true → wsz w = 1 := fun h => by
    unfold isTest at h
    have : w % 64 = 23 ∨ w % 64 = 24 ∨ w % 64 = 26 ∨ w % 64 = 27 ∨ w % 64 = 33 := by simpa using h
    unfold wsz; rw [if_neg (by (first | lia | omega)), if_neg (by (first | lia | omega))]
  have fin : isTest (w % 64) = true → nexts pc w = [(pc : Int) + (wsz w : Nat), (pc : Int) + (wsz w : Nat) + 1] := fun h => by
    unfold nexts; rw [if_neg e, if_neg n1, if_neg e4, if_pos h, tests h]
    congr 2
  refine ife_b (fun e5 => ?_) fun e5 => ?_
  · have e5 : w % 64 = 23 ∨ w % 64 = 24 ∨ w % 64 = 25 ∨ w % 64 = 26 ∨ w % 64 = 27 := by simpa using e5
    have h5 : isTest (w % 64) = true := by
      unfold isTest
      rcases e5 with h | h | h | h | h
      · rw [h]; rfl
      · rw [h]; rfl
      · exact absurd h h25
      · rw [h]; rfl
      · rw [h]; rfl
    wtm_at "m_go"
    rw [fin h5] at q
    exact ⟨few (by simp), fun a ha => .ret (q a ha)⟩
  have e5 : ¬ (w % 64 = 23 ∨ w % 64 = 24 ∨ w % 64 = 25 ∨ w % 64 = 26 ∨ w % 64 = 27) := by simpa using e5
  wtm_at "m_go"
  refine ife_eq (fun e6 => ?_) fun e6 => ?_
  · have h5 : isTest (w % 64) = true := by rw [e6]; rfl
    wtm_at "m_go"
    rw [fin h5] at q
    exact ⟨few (by simp), fun a ha => .ret (q a ha)⟩
  have n5 : ¬ isTest (w % 64) = true := fun h => by
    have : w % 64 = 23 ∨ w % 64 = 24 ∨ w % 64 = 26 ∨ w % 64 = 27 ∨ w % 64 = 33 := by unfold isTest at h; simpa using h
    (first | lia | omega)
  wtm_at "m_go"
  refine ife_eq (fun e7 => ?_) fun e7 => ?_
  · have e8 : wsz w = 1 := by unfold wsz; rw [if_neg (by (first | lia | omega)), if_neg (by (first | lia | omega))]
    wtm_at "m_go"
    refine get_c_nc W h0.1 ?_
    wtm_at "m_go"
    refine ife_ne (fun e9 => ?_) fun e9 => ?_
    · wtm_at "m_go"
      rw [show nexts pc w = [(pc : Int) + (wsz w : Nat) + 1] by unfold nexts; rw [if_neg e, if_neg n1, if_neg e4, if_neg n5, if_pos ⟨e7, e9⟩, e8]; congr 1] at q
      exact ⟨few (by simp), fun a ha => .ret (q a ha)⟩
    · wtm_at "m_go"
      rw [show nexts pc w = [(pc : Int) + (wsz w : Nat)] by unfold nexts; rw [if_neg e, if_neg n1, if_neg e4, if_neg n5, if_neg fun h => h.2 e9]] at q
      exact ⟨few (by simp), fun a ha => .ret (q a ha)⟩
  · wtm_at "m_go"
    rw [show nexts pc w = [(pc : Int) + (wsz w : Nat)] by unfold nexts; rw [if_neg e, if_neg n1, if_neg e4, if_neg n5, if_neg fun h => e7 h.1]] at q
    exact ⟨few (by simp), fun a ha => .ret (q a ha)⟩
end


/-- the starts of the instructions -/
noncomputable def sq (code : List Int) : Nat → Nat
  | 0 => 0
  | i + 1 => sq code i + (match code[sq code i]? with | some w => wsz w | none => 0)
noncomputable def St (code : List Int) (s : Nat) : Prop := ∃ i, sq code i = s
theorem wsz_pos (w : Int) : 1 ≤ wsz w ∧ wsz w ≤ 3 := by unfold wsz; split <;> (try split) <;> (first | lia | omega)
theorem St.zero (code : List Int) : St code 0 := ⟨0, rfl⟩
theorem St.step {code : List Int} {s : Nat} {w : Int} (h : St code s) (e : code[s]? = some w) : St code (s + wsz w) := by
  obtain ⟨i, rfl⟩ := h
  exact ⟨i + 1, by show sq code i + _ = _; rw [e]⟩
theorem sq_mono {code : List Int} {i j : Nat} (h : i ≤ j) : sq code i ≤ sq code j := by
  induction h with
  | refl => exact Nat.le_refl _
  | step _ ih => exact Nat.le_trans ih (Nat.le_add_right _ _)
theorem sq_stay {code : List Int} {i j : Nat} (h : i ≤ j) (e : code[sq code i]? = none) : sq code j = sq code i := by
  induction h with
  | refl => rfl
  | step _ ih => show sq code _ + _ = _; rw [ih, e]; rfl
theorem St.order {code : List Int} {a b : Nat} (ha : St code a) (hb : St code b) (h : a < b) : ∃ w, code[a]? = some w ∧ a + wsz w ≤ b := by
  obtain ⟨i, rfl⟩ := ha
  obtain ⟨j, rfl⟩ := hb
  have hij : i < j := by
    apply Nat.lt_of_not_le; intro hji
    exact absurd (sq_mono (code := code) hji) (Nat.not_le.mpr h)
  cases e : code[sq code i]? with
  | none => rw [sq_stay (Nat.le_of_lt hij) e] at h; exact absurd h (Nat.lt_irrefl _)
  | some w =>
    refine ⟨w, rfl, ?_⟩
    have := sq_mono (code := code) (show i + 1 ≤ j from hij)
    have e2 : sq code (i + 1) = sq code i + wsz w := by show sq code i + _ = _; rw [e]
    (first | lia | omega)
theorem ClosOk.le {k : KA} {H H' : AH} {P : PV} {w : Int} (h : ClosOk k H P w) (l : H.le H') : ClosOk k H' P w := fun e => by
  obtain ⟨h1, y, Py, h2, h3, h4⟩ := h e
  exact ⟨h1, y, Py, h2, h3.le l, h4⟩
noncomputable def natL (L : List Nat) : List AV := L.map fun s => .int (s : Nat)

inductive J22_0 (H : AH) (x : Addr) (P : PV) (f : Addr) (j : Nat) (ρ : Loc) (Hc : AH) : Prop
  | mk : ∀ (L : List Nat) (pc : Nat), (Hc = H.set f (.list (natL L))) → (ρ "p" = some (.ref x)) → (ρ "found" = some (.ref f)) → (ρ "pc" = some (.int pc)) → (St P.code pc) → ((∀ s ∈ L, St P.code s ∧ s < P.code.length)) → ((∀ s, St P.code s → s < pc → s ∈ L)) → (L.length ≤ pc) → (pc ≤ P.code.length + 3) → (L.length ≤ P.code.length) → (j = P.code.length + 3 - pc) → J22_0 H x P f j ρ Hc
section
variable {G : Gx} {n : Nat} {H : AH} {Q : AV → AH → Prop} {k : KA} (W : WW G) (WC : WK G k)
include W WC
theorem starts_of_nc {x : Addr} {P : PV} (hP : PAt k H x P) (hz : P.code.length ≤ 1000) (hw : ∀ s w, St P.code s → P.code[s]? = some w → 0 ≤ w ∧ ClosOk k H P w)
    (q : ∀ (L : List Nat) (f : Addr), H f = none → (∀ s, s ∈ L ↔ St P.code s ∧ s < P.code.length) → L.length ≤ 1000 → Q (.ref f) (H.set f (.list (natL L)))) : NC G (n + 4) "starts_of" [.ref x] Q H := by
  refine NC.def W 48 rfl rfl rfl ?_
  wtm_at "m_open"
  wtm_at "m_go"
  refine ⟨few (by simp), fun f hf => ?_⟩
  wtm_at "m_go"
  refine ⟨_, _, rfl, ?_⟩
  wtm_at "m_go"
  have hPf : ∀ o, PAt k (H.set f o) x P := fun o => hP.le (le_set hf)
  refine SX.while (J22_0 H x P f) ?_ (P.code.length + 3) ⟨[], 0, rfl, rfl, rfl, rfl, St.zero _, by simp, by simp, by simp, by (first | lia | omega), by simp, rfl⟩
  rintro j ρ Hc ⟨L, pc, rfl, h1, h2, h3, hS, hL1, hL2, hL3, hL4, hL5, rfl⟩
  have hP1 := hPf (.list (natL L))
  have hcode := hP1.code
  wtm_at "m_go"
  refine ife_d (fun hlt => ?_) fun hge => ?_
  · have hlt : pc < P.code.length := by (first | lia | omega)
    obtain ⟨w, hw1⟩ : ∃ w, P.code[pc]? = some w := ⟨_, List.getElem?_eq_getElem hlt⟩
    have hw2 := hw pc w hS hw1
    wtm_at "m_go"
    refine ⟨_, _, rfl, AH.set_self _ _ _, ?_⟩
    wtm_at "m_go"
    refine ⟨_, AH.set_self _ _ _, by simp [natL, sizeLine_eq]; (first | lia | omega), rfl, ?_⟩
    rw [show (H.set f (.list (natL L))).set f (.list (natL L ++ [AV.int pc])) = H.set f (.list (natL (L ++ [pc]))) from by rw [set_set]; simp [natL]]
    have hP2 := hPf (.list (natL (L ++ [pc])))
    wtm_at "m_go"
    refine words_of_nc W WC hP2 hw1 hw2.1 (by (first | lia | omega)) (hw2.2.le (le_set hf)) ?_
    wtm_at "m_go"
    have hwz := wsz_pos w
    refine ⟨_, _, .refl _, ?_, L ++ [pc], pc + wsz w, rfl, h1, h2, rfl, hS.step hw1, ?_, ?_, ?_, ?_, ?_, rfl⟩
    · (first | lia | omega)
    · intro s hs
      rcases List.mem_append.mp hs with h | h
      · exact hL1 s h
      · simp at h; subst h; exact ⟨hS, hlt⟩
    · intro s hs hlt2
      by_cases h : s < pc
      · exact List.mem_append_left _ (hL2 s hs h)
      · by_cases h' : s = pc
        · subst h'; simp
        · obtain ⟨w', e1, e2⟩ := St.order hS hs (by (first | lia | omega))
          rw [hw1] at e1; cases e1; (first | lia | omega)
    · simp; (first | lia | omega)
    · (first | lia | omega)
    · simp; (first | lia | omega)
  · wtm_at "m_go"
    refine .ret (q L f hf (fun s => ⟨fun h => hL1 s h, fun h => hL2 s h.1 (by (first | lia | omega))⟩) (by (first | lia | omega)))
end


/-- the places that a run can come to -/
inductive Reach (code : List Int) : Nat → Prop where
  | zero : Reach code 0
  | step {s t : Nat} {w : Int} (h : Reach code s) (e : code[s]? = some w) (m : (t : Int) ∈ nexts s w) : Reach code t
noncomputable def Cov (code : List Int) (i : Nat) : Prop := ∃ s w, Reach code s ∧ code[s]? = some w ∧ s ≤ i ∧ i < s + wsz w
structure WF (code : List Int) : Prop where
  in_ : ∀ s, Reach code s → ∃ w, code[s]? = some w ∧ s + wsz w ≤ code.length ∧ ∀ t ∈ nexts s w, 0 ≤ t
  apart : ∀ s s' w, Reach code s → Reach code s' → code[s]? = some w → s' ≤ s ∨ s + wsz w ≤ s'
open Classical in
noncomputable def flagsOf (code : List Int) : List Bool := (List.range code.length).map fun i => decide (Cov code i)
theorem flagsOf_length (code : List Int) : (flagsOf code).length = code.length := by simp [flagsOf]
theorem flagsOf_get {code : List Int} {i : Nat} (h : i < code.length) : (flagsOf code)[i]? = some true ↔ Cov code i := by
  simp [flagsOf, h]

noncomputable def mark (fl : List Bool) (pc : Nat) : Nat → List Bool
  | 0 => fl
  | k + 1 => (mark fl pc k).set (pc + k) true
theorem mark_length (fl : List Bool) (pc k : Nat) : (mark fl pc k).length = fl.length := by
  induction k with
  | zero => rfl
  | succ k ih => simp [mark, ih]
theorem mark_get (fl : List Bool) (pc k i : Nat) (h : pc + k ≤ fl.length) : (mark fl pc k)[i]? = if pc ≤ i ∧ i < pc + k then some true else fl[i]? := by
  induction k with
  | zero => rw [if_neg (by (first | lia | omega))]; rfl
  | succ k ih =>
    show ((mark fl pc k).set (pc + k) true)[i]? = _
    rw [List.getElem?_set, mark_length]
    by_cases hi : pc + k = i
    · rw [if_pos hi, if_pos (by (first | lia | omega)), if_pos (by (first | lia | omega))]
    · rw [if_neg hi, ih (by (first | lia | omega))]
      by_cases h2 : pc ≤ i ∧ i < pc + k
      · rw [if_pos h2, if_pos (by (first | lia | omega))]
      · rw [if_neg h2, if_neg (by (first | lia | omega))]
theorem count_set_le (l : List Bool) (i : Nat) : (l.set i true).count false ≤ l.count false := by
  induction l generalizing i with
  | nil => simp
  | cons b r ih =>
    cases i with
    | zero => simp only [List.set_cons_zero, List.count_cons]; cases b <;> simp
    | succ i => simp only [List.set_cons_succ, List.count_cons]; have := ih i; (first | lia | omega)
theorem count_set_lt {l : List Bool} {i : Nat} (h : l[i]? = some false) : (l.set i true).count false < l.count false := by
  induction l generalizing i with
  | nil => simp at h
  | cons b r ih =>
    cases i with
    | zero => simp at h; subst h; simp
    | succ i => simp only [List.set_cons_succ, List.count_cons]; have := ih (i := i) (by simpa using h); (first | lia | omega)
theorem mark_count {fl : List Bool} {pc k : Nat} (h : fl[pc]? = some false) : (mark fl pc (k + 1)).count false < fl.count false := by
  induction k with
  | zero => exact count_set_lt h
  | succ k ih => exact Nat.lt_of_le_of_lt (count_set_le _ _) ih

structure Inv (code : List Int) (fl : List Bool) (wait : List Nat) (Pd : Nat → Prop) : Prop where
  len : fl.length = code.length
  fl : ∀ i, i < code.length → (fl[i]? = some true ↔ ∃ s w, Pd s ∧ code[s]? = some w ∧ s ≤ i ∧ i < s + wsz w)
  pd : ∀ s, Pd s → Reach code s
  wt : ∀ s ∈ wait, Reach code s
  zero : Pd 0 ∨ 0 ∈ wait
  next : ∀ s w, Pd s → code[s]? = some w → ∀ t ∈ nexts s w, Pd t.toNat ∨ t.toNat ∈ wait
theorem Inv.init (code : List Int) : Inv code (List.replicate code.length false) [0] fun _ => False := by
  refine ⟨by simp, fun i hi => ?_, fun _ h => h.elim, fun s h => by simp at h; subst h; exact .zero, .inr (by simp), fun _ _ h => h.elim⟩
  simp [hi]
theorem Inv.skip {code : List Int} {fl : List Bool} {ws : List Nat} {pc : Nat} {Pd : Nat → Prop} (W : WF code) (I : Inv code fl (ws ++ [pc]) Pd) (h : fl[pc]? = some true) : Inv code fl ws Pd := by
  have hpc : pc < code.length := by rw [← I.len]; exact (List.getElem?_eq_some_iff.mp h).1
  obtain ⟨s, w, h1, h2, h3, h4⟩ := (I.fl pc hpc).mp h
  have hr := I.wt pc (by simp)
  have : s = pc := by rcases W.apart s pc w (I.pd s h1) hr h2 with h | h <;> (first | lia | omega)
  subst this
  refine ⟨I.len, I.fl, I.pd, fun t ht => I.wt t (List.mem_append_left _ ht), ?_, fun s' w' a b t ht => ?_⟩
  · rcases I.zero with h | h
    · exact .inl h
    · rcases List.mem_append.mp h with h | h
      · exact .inr h
      · simp at h; rw [h]; exact .inl h1
  · rcases I.next s' w' a b t ht with h | h
    · exact .inl h
    · rcases List.mem_append.mp h with h | h
      · exact .inr h
      · simp at h; rw [h]; exact .inl h1
theorem Inv.step {code : List Int} {fl : List Bool} {ws : List Nat} {pc : Nat} {Pd : Nat → Prop} {w : Int} (W : WF code) (I : Inv code fl (ws ++ [pc]) Pd) (hw : code[pc]? = some w) :
    Inv code (mark fl pc (wsz w)) (ws ++ (nexts pc w).map Int.toNat) fun s => s = pc ∨ Pd s := by
  have hr := I.wt pc (by simp)
  obtain ⟨w', e, hle, hnn⟩ := W.in_ pc hr
  rw [hw] at e; cases e
  refine ⟨by rw [mark_length]; exact I.len, fun i hi => ?_, fun s h => ?_, fun s h => ?_, ?_, fun s w' h e t ht => ?_⟩
  · rw [mark_get _ _ _ _ (by rw [I.len]; exact hle)]
    by_cases h : pc ≤ i ∧ i < pc + wsz w
    · rw [if_pos h]; simp only [true_iff]; exact ⟨pc, w, .inl rfl, hw, h.1, h.2⟩
    · rw [if_neg h, I.fl i hi]
      constructor
      · rintro ⟨s, w', a, b⟩; exact ⟨s, w', .inr a, b⟩
      · rintro ⟨s, w', a | a, b, c⟩
        · subst a; rw [hw] at b; cases b; exact absurd c h
        · exact ⟨s, w', a, b, c⟩
  · rcases h with h | h
    · rw [h]; exact hr
    · exact I.pd s h
  · rcases List.mem_append.mp h with h | h
    · exact I.wt s (List.mem_append_left _ h)
    · obtain ⟨t, ht, rfl⟩ := List.mem_map.mp h
      refine .step hr hw ?_
      rw [Int.toNat_of_nonneg (hnn t ht)]; exact ht
  · rcases I.zero with h | h
    · exact .inl (.inr h)
    · rcases List.mem_append.mp h with h | h
      · exact .inr (List.mem_append_left _ h)
      · simp at h; exact .inl (.inl h)
  · rcases h with h | h
    · subst h; rw [hw] at e; cases e
      exact .inr (List.mem_append_right _ (List.mem_map.mpr ⟨t, ht, rfl⟩))
    · rcases I.next s w' h e t ht with h | h
      · exact .inl (.inr h)
      · rcases List.mem_append.mp h with h | h
        · exact .inr (List.mem_append_left _ h)
        · simp at h; exact .inl (.inl h)
theorem Inv.done {code : List Int} {fl : List Bool} {Pd : Nat → Prop} (I : Inv code fl [] Pd) : fl = flagsOf code := by
  have all : ∀ s, Reach code s → Pd s := by
    intro s h
    induction h with
    | zero => exact I.zero.resolve_right (by simp)
    | step h e m ih => have := (I.next _ _ ih e _ m).resolve_right (by simp); simpa using this
  apply List.ext_getElem?
  intro i
  by_cases hi : i < code.length
  · have h1 : (fl[i]? = some true) ↔ ((flagsOf code)[i]? = some true) := by
      rw [I.fl i hi, flagsOf_get hi]
      constructor
      · rintro ⟨s, w, a, b⟩; exact ⟨s, w, I.pd s a, b⟩
      · rintro ⟨s, w, a, b⟩; exact ⟨s, w, all s a, b⟩
    have l1 : i < fl.length := by rw [I.len]; exact hi
    have l2 : i < (flagsOf code).length := by rw [flagsOf_length]; exact hi
    rw [List.getElem?_eq_getElem l1, List.getElem?_eq_getElem l2] at h1 ⊢
    generalize fl[i] = a at h1 ⊢
    generalize (flagsOf code)[i] = b at h1 ⊢
    cases a <;> cases b <;> simp_all
  · rw [List.getElem?_eq_none (by rw [I.len]; (first | lia | omega)), List.getElem?_eq_none (by rw [flagsOf_length]; (first | lia | omega))]

section
variable {G : Gx} {n : Nat} {H : AH} {Q : AV → AH → Prop} (W : WW G)
include W
theorem law_size_nc {w : Int} (q : Q (.int (wsz w)) H) : NC G (n + 2) "_law_size" [.int w] Q H := by
  refine NC.def W 66 rfl rfl rfl ?_
  wtm_at "m_open"
  wtm_at "m_go"
  refine law_parts_nc W fun t ht => ?_
  wtm_at "m_go"
  refine ife_eq (fun e => ?_) fun e => ?_
  · wtm_at "m_go"
    have e3 : wsz w = 3 := by unfold wsz; rw [if_pos e]
    rw [e3] at q
    exact .retLe (le_set ht) q
  · wtm_at "m_go"
    refine ife_eq (fun e2 => ?_) fun e2 => ?_
    · wtm_at "m_go"
      refine ife_eq (fun e3 => ?_) fun e3 => ?_
      · wtm_at "m_go"
        have e3 : wsz w = 2 := by unfold wsz; rw [if_neg e, if_pos ⟨e2, e3⟩]
        rw [e3] at q
        exact .retLe (le_set ht) q
      · wtm_at "m_go"
        have e3 : wsz w = 1 := by unfold wsz; rw [if_neg e, if_neg (fun h => e3 h.2)]
        rw [e3] at q
        exact .retLe (le_set ht) q
    · wtm_at "m_go"
      have e3 : wsz w = 1 := by unfold wsz; rw [if_neg e, if_neg (fun h => e2 h.1)]
      rw [e3] at q
      exact .retLe (le_set ht) q
theorem law_next_nc {lc : Addr} {code : List Int} {at_ : Nat} {w : Int} (hl : H lc = some (.list (code.map .int))) (hw : code[at_]? = some w) (hz : at_ < 2 ^ 40)
    (q : ∀ a, H a = none → Q (.ref a) (H.set a (.list ((nexts at_ w).map .int)))) : NC G (n + 3) "_law_next" [.ref lc, .int at_] Q H := by
  refine NC.def W 67 rfl rfl rfl ?_
  wtm_at "m_open"
  wtm_at "m_go"
  refine law_parts_nc W fun t ht => ?_
  wtm_at "m_go"
  refine ife_eq (fun e => ?_) fun e => ?_
  · wtm_at "m_go"
    rw [show nexts at_ w = [] by unfold nexts; rw [if_pos e]] at q
    exact ⟨few (by simp), fun a ha => .retLe (le_under ht) (q a (set_none ha).2)⟩
  wtm_at "m_go"
  have fin : ∀ l, nexts at_ w = l → ∀ a, (H.set t (.tup [.int (w % 64), .int (w / 64 % 256), .int (w / 8388608 % 512), .int (w / 16384 % 512)])) a = none → 
      ∃ H'', H''.le ((H.set t (.tup [.int (w % 64), .int (w / 64 % 256), .int (w / 8388608 % 512), .int (w / 16384 % 512)])).set a (.list (l.map .int))) ∧ Q (.ref a) H'' := fun l e a ha => by
    subst e; exact ⟨_, le_under ht, q a (set_none ha).2⟩
  refine ife_eq (fun e2 => ?_) fun e2 => ?_
  · wtm_at "m_go"
    refine law_distance_nc W ?_
    wtm_at "m_go"
    exact ⟨few (by simp), fun a ha => ⟨_, .inl rfl, fin [(at_ : Int) + 1 + (w / 16384 - 131071)] (by unfold nexts; rw [if_neg e, if_pos (.inl e2)]) a ha⟩⟩
  wtm_at "m_go"
  refine ife_eq (fun e3 => ?_) fun e3 => ?_
  · wtm_at "m_go"
    refine law_distance_nc W ?_
    wtm_at "m_go"
    exact ⟨few (by simp), fun a ha => ⟨_, .inl rfl, fin [(at_ : Int) + 1 + (w / 16384 - 131071)] (by unfold nexts; rw [if_neg e, if_pos (.inr e3)]) a ha⟩⟩
  have n1 : ¬ (w % 64 = 22 ∨ w % 64 = 32) := fun h => h.elim e2 e3
  wtm_at "m_go"
  refine ife_eq (fun e4 => ?_) fun e4 => ?_
  · wtm_at "m_go"
    refine law_distance_nc W ?_
    wtm_at "m_go"
    exact ⟨few (by simp), fun a ha => ⟨_, .inl rfl, fin [(at_ : Int) + 1 + (w / 16384 - 131071), (at_ : Int) + 1] (by unfold nexts; rw [if_neg e, if_neg n1, if_pos e4]) a ha⟩⟩
  wtm_at "m_go"
  intro a' ha'
  refine CO.inTop ha' ?_
  wtm_at "m_go"
  refine ife_b (fun e5 => ?_) fun e5 => ?_
  · wtm_at "m_go"
    exact ⟨few (by simp), fun a ha => ⟨_, .inl rfl, fin [(at_ : Int) + 1, (at_ : Int) + 2] (by unfold nexts; rw [if_neg e, if_neg n1, if_neg e4, if_pos (show isTest _ = true from e5)]) a ha⟩⟩
  have n5 : ¬ isTest (w % 64) = true := by show ¬ _ = true; unfold isTest; rw [e5]; exact Bool.false_ne_true
  have last : ∀ c : Prop, ¬ (w % 64 = 2 ∧ w / 16384 % 512 ≠ 0) → nexts at_ w = [(at_ : Int) + (wsz w : Nat)] := fun _ h => by unfold nexts; rw [if_neg e, if_neg n1, if_neg e4, if_neg n5, if_neg h]
  wtm_at "m_go"
  refine ife_eq (fun e7 => ?_) fun e7 => ?_
  · wtm_at "m_go"
    refine ife_ne (fun e9 => ?_) fun e9 => ?_
    · wtm_at "m_go"
      exact ⟨few (by simp), fun a ha => ⟨_, .inl rfl, fin [(at_ : Int) + 2] (by unfold nexts; rw [if_neg e, if_neg n1, if_neg e4, if_neg n5, if_pos ⟨e7, e9⟩]) a ha⟩⟩
    · wtm_at "m_go"
      refine law_size_nc W ?_
      wtm_at "m_go"
      exact ⟨few (by simp), fun a ha => ⟨_, .inl rfl, fin [(at_ : Int) + (wsz w : Nat)] (last True fun h => h.2 e9) a ha⟩⟩
  · wtm_at "m_go"
    refine law_size_nc W ?_
    wtm_at "m_go"
    exact ⟨few (by simp), fun a ha => ⟨_, .inl rfl, fin [(at_ : Int) + (wsz w : Nat)] (last True fun h => e7 h.1) a ha⟩⟩
end


theorem set_mono {H H' : AH} {a : Addr} {o : AO} (l : H.le H') : (H.set a o).le (H'.set a o) := fun b x e => by
  by_cases hb : b = a
  · subst hb; rw [AH.set_self] at e ⊢; exact e
  · rw [AH.set_ne _ _ hb] at e ⊢; exact l _ _ e
theorem set_comm {H : AH} {a b : Addr} {o p : AO} (h : a ≠ b) : (H.set a o).set b p = (H.set b p).set a o := by
  funext c; unfold AH.set
  by_cases hb : c = b
  · subst hb; rw [if_pos rfl, if_neg (Ne.symm h), if_pos rfl]
  · rw [if_neg hb]; split
    · rfl
    · rfl
/-- two lists of the frame's own -/
noncomputable def two (H : AH) (f g : Addr) (A B : List AV) : AH := (H.set f (.list A)).set g (.list B)
theorem two_fst {H : AH} {f g : Addr} {A B : List AV} (h : f ≠ g) : two H f g A B f = some (.list A) := (AH.set_ne _ _ h).trans (AH.set_self _ _ _)
theorem two_snd {H : AH} {f g : Addr} {A B : List AV} : two H f g A B g = some (.list B) := AH.set_self _ _ _
theorem two_le {H : AH} {f g : Addr} {A B : List AV} (hf : H f = none) (hg : H g = none) (h : f ≠ g) : H.le (two H f g A B) := (le_set hf).trans (le_set ((AH.set_ne _ _ h.symm).trans hg))
theorem two_set1 {H : AH} {f g : Addr} {A B C : List AV} (h : f ≠ g) : (two H f g A B).set f (.list C) = two H f g C B := by
  unfold two; rw [← set_comm h, set_set, ]
theorem two_set2 {H : AH} {f g : Addr} {A B C : List AV} : (two H f g A B).set g (.list C) = two H f g A C := by unfold two; rw [set_set]
theorem natL_append (L K : List Nat) : natL (L ++ K) = natL L ++ natL K := by simp [natL]
theorem natL_nexts {l : List Int} (h : ∀ t ∈ l, 0 ≤ t) : natL (l.map Int.toNat) = l.map .int := by
  unfold natL
  rw [List.map_map]
  apply List.map_congr_left
  intro t ht
  show AV.int ((t.toNat : Nat) : Int) = AV.int t
  rw [Int.toNat_of_nonneg (h t ht)]
theorem nexts_length (a w : Int) : (nexts a w).length ≤ 2 := by unfold nexts; (repeat' split) <;> simp
theorem last_of {α : Type} {l : List α} (h : l ≠ []) : ∃ ws x, l = ws ++ [x] := ⟨l.dropLast, l.getLast h, (List.dropLast_concat_getLast h).symm⟩
theorem replicate_map (n : Nat) : List.replicate n (AV.bool false) = (List.replicate n false).map .bool := by simp
inductive J24_0 (H : AH) (x : Addr) (P : PV) (f : Addr) (g : Addr) (j : Nat) (ρ : Loc) (Hc : AH) : Prop
  | mk : ∀ (fl : List Bool) (ws : List Nat) (Pd : Nat → Prop), (Hc = two H f g (fl.map .bool) (natL ws)) → (ρ "p" = some (.ref x)) → (ρ "found" = some (.ref f)) → (ρ "waiting" = some (.ref g)) → (Inv P.code fl ws Pd) → (j = 3 * fl.count false + ws.length) → (j ≤ 3 * P.code.length + 1) → J24_0 H x P f g j ρ Hc
inductive J24_1 (H : AH) (x : Addr) (f : Addr) (g : Addr) (fl : List Bool) (us : List Nat) (pc : Nat) (w : Int) (i : Nat) (ρ' : Loc) (Hc' : AH) : Prop
  | mk : (i ≤ wsz w) → (Hc' = two H f g ((mark fl pc i).map .bool) (natL us)) → (ρ' "p" = some (.ref x)) → (ρ' "found" = some (.ref f)) → (ρ' "waiting" = some (.ref g)) → (ρ' "pc" = some (.int pc)) → J24_1 H x f g fl us pc w i ρ' Hc'
inductive J24_2 (H : AH) (lc : Addr) (code : List Int) (f : Addr) (j : Nat) (ρ : Loc) (Hc : AH) : Prop
  | mk : ∀ (fl : List Bool) (ws : List Nat) (Pd : Nat → Prop) (g : Addr), (g ≠ f) → (H g = none) → (Hc = two H f g (fl.map .bool) (natL ws)) → (ρ "code" = some (.ref lc)) → (ρ "found" = some (.ref f)) → (ρ "left" = some (.ref g)) → (Inv code fl ws Pd) → (j = 3 * fl.count false + ws.length) → (j ≤ 3 * code.length + 1) → J24_2 H lc code f j ρ Hc
inductive J24_3 (H : AH) (lc : Addr) (f : Addr) (fl : List Bool) (g : Addr) (us : List Nat) (pc : Nat) (w : Int) (i : Nat) (ρ' : Loc) (Hc' : AH) : Prop
  | mk : (i ≤ wsz w) → (Hc' = two H f g ((mark fl pc i).map .bool) (natL us)) → (ρ' "code" = some (.ref lc)) → (ρ' "found" = some (.ref f)) → (ρ' "left" = some (.ref g)) → (ρ' "at" = some (.int pc)) → J24_3 H lc f fl g us pc w i ρ' Hc'
section
variable {G : Gx} {n : Nat} {H : AH} {Q : AV → AH → Prop} {k : KA} (W : WW G) (WC : WK G k)
include W WC
theorem reached_nc {x : Addr} {P : PV} (hP : PAt k H x P) (hz : P.code.length ≤ 1000) (wf : WF P.code) (hw : ∀ s w, Reach P.code s → P.code[s]? = some w → (0 ≤ w ∧ w < 4294967296) ∧ w % 64 ≠ 25 ∧ ClosOk k H P w)
    (q : ∀ f, H f = none → Q (.ref f) (H.set f (.list ((flagsOf P.code).map .bool)))) : NC G (n + 6) "reached" [.ref x] Q H := by
  refine NC.def W 52 rfl rfl rfl ?_
  wtm_at "m_open"
  have hcode := hP.code
  wtm_at "m_go"
  refine ⟨few (by simp), fun a ha => ?_⟩
  have hPa := hP.le (le_set (o := .list [.bool false]) ha)
  have hcodea := hPa.code
  wtm_at "m_go"
  refine BO.rep (AH.set_self _ _ _) (by (first | lia | omega)) (by (first | lia | omega)) fun f hf => ?_
  wtm_at "m_go"
  refine ⟨few (by simp), fun g hg => ?_⟩
  wtm_at "m_go"
  refine ⟨_, _, rfl, ?_⟩
  obtain ⟨hfa, hf⟩ := set_none hf
  obtain ⟨hgf, hg⟩ := set_none hg
  obtain ⟨hga, hg⟩ := set_none hg
  have hfg : f ≠ g := hgf.symm
  have hPt : ∀ A B, PAt k (two H f g A B) x P := fun A B => hP.le (two_le hf hg hfg)
  refine SXs.sub (H := two H f g ((List.replicate P.code.length false).map .bool) (natL [0])) ?_ ?_
  · rw [Int.toNat_natCast, replicate_map]; exact set_mono (set_mono (le_set ha))
  refine SXs.cons (SX.while (J24_0 H x P f g) ?_ (3 * P.code.length + 1) ⟨_, [0], _, rfl, rfl, rfl, rfl, Inv.init _, by simp, Nat.le_refl _⟩)
  rintro j ρ Hc ⟨fl, ws, Pd, rfl, h1, h2, h3, I, rfl, hj⟩
  have hP1 := hPt (fl.map .bool) (natL ws)
  have hcode := hP1.code
  have hfl : two H f g (fl.map .bool) (natL ws) f = some (.list (fl.map .bool)) := two_fst hfg
  have hws : two H f g (fl.map .bool) (natL ws) g = some (.list (natL ws)) := two_snd
  have hws' : two H f g (fl.map .bool) (natL ws) g = some (.list (ws.map fun s => .int (s : Nat))) := hws
  wtm_at "m_go"
  refine ife_d (fun hpos => ?_) fun hno => ?_
  · obtain ⟨us, pc, rfl⟩ := last_of (l := ws) (by rintro rfl; simp at hpos)
    have hr := I.wt pc (by simp)
    obtain ⟨w, hw1, hle, hnn⟩ := wf.in_ pc hr
    have hw2 := hw pc w hr hw1
    have hwz := wsz_pos w
    have hll : us.length + 1 ≤ 4000 := by simp at hj; (first | lia | omega)
    wtm_at "m_go"
    refine ⟨_, natL us, .int pc, rfl, by rw [hws, natL_append]; rfl, by simp [natL, sizeLine_eq]; (first | lia | omega), ?_⟩
    rw [two_set2]
    have hP2 := hPt (fl.map .bool) (natL us)
    have hcode2 := hP2.code
    have hfl2 : two H f g (fl.map .bool) (natL us) f = some (.list (fl.map .bool)) := two_fst hfg
    wtm_at "m_go"
    refine ife_d (fun hbad => absurd hbad (by (first | lia | omega))) fun _ => ?_
    obtain ⟨b, hb⟩ : ∃ b, fl[pc]? = some b := ⟨_, List.getElem?_eq_getElem (by rw [I.len]; (first | lia | omega))⟩
    wtm_at "m_go"
    refine ife_b (fun hbt => ?_) fun hbf => ?_
    · subst hbt
      wtm_at "m_go"
      refine ⟨_, _, .refl _, ?_, fl, us, Pd, rfl, h1, h2, h3, I.skip wf hb, rfl, ?_⟩
      · simp
      · simp at hj; (first | lia | omega)
    · subst hbf
      wtm_at "m_go"
      have hcnt := mark_count (k := wsz w - 1) hb
      rw [show wsz w - 1 + 1 = wsz w by (first | lia | omega)] at hcnt
      refine SX.for (fun _ _ => rfl) (IT.range2W W rfl rfl rfl ?_)
      wtm_at "m_go"
      refine words_of_nc W WC hP2 hw1 hw2.1.1 (by (first | lia | omega)) (hw2.2.2.le (two_le hf hg hfg)) ?_
      wtm_at "m_go"
      refine ⟨_, _, rfl, rfl, ?_⟩
      wtm_at "m_go"
      refine ⟨_, _, rfl, rfl, by (first | lia | omega), by (first | lia | omega), rfl, (J24_1 H x f g fl us pc w),
        ⟨Nat.zero_le _, rfl, h1, h2, h3, rfl⟩, ?_, ?_⟩
      · rintro i ρ' Hc' hi ⟨hiw, rfl, g1, g2, g3, g4⟩
        have hi : i < wsz w := by
          have : i < (min (P.code.length : Int) ((pc : Int) + (wsz w : Nat)) - pc).toNat := hi
          (first | lia | omega)
        have hfl3 : two H f g ((mark fl pc i).map .bool) (natL us) f = some (.list ((mark fl pc i).map .bool)) := two_fst hfg
        refine ⟨trivial, ?_⟩
        refine AS.name rfl ?_
        wtm_at "m_go"
        refine SI.list hfl3 (by (first | lia | omega)) (by (first | lia | omega)) (by rw [List.length_map, mark_length, I.len]; (first | lia | omega)) ?_
        wtm_at "m_go"
        refine ⟨_, .refl _, hi, ?_, g1, g2, g3, g4⟩
        rw [two_set1 hfg]
        congr 1
        rw [show ((pc : Int) + (i : Nat)).toNat = pc + i by (first | lia | omega)]
        show _ = ((mark fl pc i).set (pc + i) true).map AV.bool
        rw [List.map_set]
      · rintro ρ' Hc' ⟨_, rfl, g1, g2, g3, g4⟩
        refine ⟨trivial, ?_⟩
        have el : (Src.range (pc : Int) (min (P.code.length : Int) ((pc : Int) + (wsz w : Nat)) - pc).toNat).len = wsz w := by
          show (min (P.code.length : Int) ((pc : Int) + (wsz w : Nat)) - pc).toNat = wsz w
          (first | lia | omega)
        rw [el]
        have hP4 := hPt ((mark fl pc (wsz w)).map .bool) (natL us)
        have hws4 : two H f g ((mark fl pc (wsz w)).map .bool) (natL us) g = some (.list (natL us)) := two_snd
        have hnl := nexts_length pc w
        wtm_at "m_go"
        refine ⟨_, _, rfl, hws4, ?_⟩
        wtm_at "m_go"
        refine next_places_nc W WC hP4 hw1 hw2.1 (by (first | lia | omega)) (hw2.2.2.le (two_le hf hg hfg)) hw2.2.1 fun a' ha' => ?_
        refine ⟨_, _, _, rfl, set_old ha' hws4, AH.set_self _ _ _, by simp [natL]; (first | lia | omega), rfl, ?_⟩
        wtm_at "m_go"
        refine ⟨two H f g ((mark fl pc (wsz w)).map .bool) (natL (us ++ (nexts pc w).map Int.toNat)), _, ?_, ?_, mark fl pc (wsz w), us ++ (nexts pc w).map Int.toNat, _, rfl, g1, g2, g3, I.step wf hw1, rfl, ?_⟩
        · rw [natL_append, natL_nexts hnn]
          exact two_set2 (A := (mark fl pc (wsz w)).map .bool) (B := natL us) ▸ set_mono (le_set ha')
        · simp; (first | lia | omega)
        · simp at hj ⊢; (first | lia | omega)
  · have : ws = [] := by cases ws with | nil => rfl | cons _ _ => simp at hno
    subst this
    wtm_at "m_go"
    refine .retLe (H := H.set f (.list (fl.map .bool))) (le_set ((AH.set_ne _ _ hgf).trans hg)) ?_
    rw [I.done]
    exact q f hf
omit WC
theorem law_live_nc {lc : Addr} {code : List Int} (hl : H lc = some (.list (code.map .int))) (hz : code.length ≤ 1000) (wf : WF code)
    (q : ∀ f, H f = none → Q (.ref f) (H.set f (.list ((flagsOf code).map .bool)))) : NC G (n + 6) "_law_live" [.ref lc] Q H := by
  refine NC.def W 68 rfl rfl rfl ?_
  wtm_at "m_open"
  wtm_at "m_go"
  refine ⟨few (by simp), fun a ha => ?_⟩
  wtm_at "m_go"
  refine BO.rep (AH.set_self _ _ _) (by (first | lia | omega)) (by (first | lia | omega)) fun f hf => ?_
  wtm_at "m_go"
  refine ⟨few (by simp), fun g hg => ?_⟩
  wtm_at "m_go"
  refine ⟨_, _, rfl, ?_⟩
  obtain ⟨hfa, hf⟩ := set_none hf
  obtain ⟨hgf, hg⟩ := set_none hg
  obtain ⟨hga, hg⟩ := set_none hg
  refine SXs.sub (H := two H f g ((List.replicate code.length false).map .bool) (natL [0])) ?_ ?_
  · rw [Int.toNat_natCast, replicate_map]; exact set_mono (set_mono (le_set ha))
  refine SXs.cons (SX.while (J24_2 H lc code f) ?_ (3 * code.length + 1) ⟨_, [0], _, g, hgf, hg, rfl, rfl, rfl, rfl, Inv.init _, by simp, Nat.le_refl _⟩)
  rintro j ρ Hc ⟨fl, ws, Pd, g, hgf, hg, rfl, h1, h2, h3, I, rfl, hj⟩
  have hfg : f ≠ g := hgf.symm
  have hlt : ∀ A B, two H f g A B lc = some (.list (code.map .int)) := fun A B => two_le hf hg hfg _ _ hl
  have hfl : two H f g (fl.map .bool) (natL ws) f = some (.list (fl.map .bool)) := two_fst hfg
  have hws : two H f g (fl.map .bool) (natL ws) g = some (.list (natL ws)) := two_snd
  have hl1 := hlt (fl.map .bool) (natL ws)
  wtm_at "m_go"
  refine ⟨few (by simp), fun b hb => ?_⟩
  refine CO.neL (t := .I) (da := ws.map fun s => ((s : Nat) : Int)) (db := []) (by decide) ?_ ⟨b, [], rfl, AH.set_self _ _ _, trivial⟩ ?_
  · refine ⟨g, natL ws, rfl, set_old hb hws, ?_⟩
    exact All2.of (by simp [natL]) fun i h1 h2 => by simp [natL, Rd]
  wtm_at "m_go"
  have hbb : (two H f g (fl.map .bool) (natL ws)).le ((two H f g (fl.map .bool) (natL ws)).set b (.list [])) := le_set hb
  have hws2 := hbb _ _ hws
  refine ife_n (fun hne => ?_) fun he => ?_
  · refine SXs.sub hbb ?_
    obtain ⟨us, pc, rfl⟩ := last_of (l := ws) (by rintro rfl; exact absurd hne (by decide))
    have hr := I.wt pc (by simp)
    obtain ⟨w, hw1, hle, hnn⟩ := wf.in_ pc hr
    have hwz := wsz_pos w
    have hll : us.length + 1 ≤ 4000 := by simp at hj; (first | lia | omega)
    wtm_at "m_go"
    refine ⟨_, natL us, .int pc, rfl, by rw [hws, natL_append]; rfl, by simp [natL, sizeLine_eq]; (first | lia | omega), ?_⟩
    rw [two_set2]
    have hl2 := hlt (fl.map .bool) (natL us)
    have hfl2 : two H f g (fl.map .bool) (natL us) f = some (.list (fl.map .bool)) := two_fst hfg
    obtain ⟨b, hb⟩ : ∃ b, fl[pc]? = some b := ⟨_, List.getElem?_eq_getElem (by rw [I.len]; (first | lia | omega))⟩
    wtm_at "m_go"
    refine ife_n (fun hbf => ?_) fun hbt => ?_
    · subst hbf
      wtm_at "m_go"
      have hcnt := mark_count (k := wsz w - 1) ‹fl[pc]? = some false›
      rw [show wsz w - 1 + 1 = wsz w by (first | lia | omega)] at hcnt
      refine SX.for (fun _ _ => rfl) (IT.range2W W rfl rfl rfl ?_)
      wtm_at "m_go"
      refine law_size_nc W ?_
      wtm_at "m_go"
      refine ⟨_, _, rfl, rfl, by (first | lia | omega), by (first | lia | omega), rfl, (J24_3 H lc f fl g us pc w),
        ⟨Nat.zero_le _, rfl, h1, h2, h3, rfl⟩, ?_, ?_⟩
      · rintro i ρ' Hc' hi ⟨hiw, rfl, g1, g2, g3, g4⟩
        have hi : i < wsz w := by
          have : i < ((pc : Int) + (wsz w : Nat) - pc).toNat := hi
          (first | lia | omega)
        have hfl3 : two H f g ((mark fl pc i).map .bool) (natL us) f = some (.list ((mark fl pc i).map .bool)) := two_fst hfg
        refine ⟨trivial, ?_⟩
        refine AS.name rfl ?_
        wtm_at "m_go"
        refine SI.list hfl3 (by (first | lia | omega)) (by (first | lia | omega)) (by rw [List.length_map, mark_length, I.len]; (first | lia | omega)) ?_
        wtm_at "m_go"
        refine ⟨_, .refl _, hi, ?_, g1, g2, g3, g4⟩
        rw [two_set1 hfg]
        congr 1
        rw [show ((pc : Int) + (i : Nat)).toNat = pc + i by (first | lia | omega)]
        show _ = ((mark fl pc i).set (pc + i) true).map AV.bool
        rw [List.map_set]
      · rintro ρ' Hc' ⟨_, rfl, g1, g2, g3, g4⟩
        refine ⟨trivial, ?_⟩
        have el : (Src.range (pc : Int) ((pc : Int) + (wsz w : Nat) - pc).toNat).len = wsz w := by
          show ((pc : Int) + (wsz w : Nat) - pc).toNat = wsz w
          (first | lia | omega)
        rw [el]
        have hl4 := hlt ((mark fl pc (wsz w)).map .bool) (natL us)
        have hws4 : two H f g ((mark fl pc (wsz w)).map .bool) (natL us) g = some (.list (natL us)) := two_snd
        have hnl := nexts_length pc w
        wtm_at "m_go"
        refine law_next_nc W hl4 hw1 (by (first | lia | omega)) fun a' ha' => ?_
        refine BO.cat (set_old ha' hws4) (AH.set_self _ _ _) (by rw [sizeLine_eq]; simp [natL]; (first | lia | omega)) fun g' hg' => ?_
        wtm_at "m_go"
        obtain ⟨hga', hg'⟩ := set_none hg'
        obtain ⟨hgg', hg'⟩ := set_none hg'
        obtain ⟨hgf', hg'⟩ := set_none hg'
        have ha'f := (set_none (set_none ha').2)
        refine ⟨two H f g' ((mark fl pc (wsz w)).map .bool) (natL (us ++ (nexts pc w).map Int.toNat)), _, ?_, ?_, mark fl pc (wsz w), us ++ (nexts pc w).map Int.toNat, _, g', hgf', hg', rfl, g1, g2, rfl, I.step wf hw1, rfl, ?_⟩
        · rw [natL_append, natL_nexts hnn]
          exact set_mono ((le_set ((AH.set_ne _ _ hgf).trans hg)).trans (le_set ha'))
        · simp; (first | lia | omega)
        · simp at hj ⊢; (first | lia | omega)
    · subst hbt
      wtm_at "m_go"
      refine ⟨_, _, .refl _, ?_, fl, us, Pd, g, hgf, hg, rfl, h1, h2, h3, I.skip wf ‹_›, rfl, ?_⟩
      · simp
      · simp at hj; (first | lia | omega)
  · have : ws = [] := by cases ws with | nil => rfl | cons _ _ => exact absurd he (by intro h; cases h)
    subst this
    wtm_at "m_go"
    refine .retLe (H := H.set f (.list (fl.map .bool))) ((le_set ((AH.set_ne _ _ hgf).trans hg)).trans hbb) ?_
    rw [I.done]
    exact q f hf
end

set_option compiler.extract_closed false

/-- all but one is kept -/
noncomputable def Kp (d : Addr) (H H' : AH) : Prop := ∀ b o, b ≠ d → H b = some o → H' b = some o
theorem AH.le.use {H H' : AH} {b : Addr} {o : AO} (l : H.le H') (h : H b = some o) : H' b = some o := l _ _ h
theorem Kp.use {d : Addr} {H H' : AH} {b : Addr} {o : AO} (l : Kp d H H') (hb : b ≠ d) (h : H b = some o) : H' b = some o := l _ _ hb h
theorem Kp.set (d : Addr) (H : AH) (o : AO) : Kp d H (H.set d o) := fun b x hb e => (AH.set_ne _ _ hb).trans e
theorem Kp.trans {d : Addr} {H H' H'' : AH} (a : Kp d H H') (b : Kp d H' H'') : Kp d H H'' := fun c x hc e => b _ _ hc (a _ _ hc e)
theorem Kp.le {d : Addr} {H H' H'' : AH} (a : Kp d H H') (b : H'.le H'') : Kp d H H'' := fun c x hc e => b _ _ (a _ _ hc e)
theorem AH.le.kp {d : Addr} {H H' : AH} (a : H.le H') : Kp d H H' := fun c x _ e => a _ _ e
theorem gen_alloc {H : AH} {a : Addr} {o : AO} {p : AH → Prop} (ha : H a = none) (h : ∀ H', H.le H' → H' a = some o → p H') : p (H.set a o) := h _ (le_set ha) (AH.set_self _ _ _)
theorem gen_set {H : AH} {a : Addr} {o : AO} {p : AH → Prop} (h : ∀ H', Kp a H H' → H' a = some o → p H') : p (H.set a o) := h _ (Kp.set _ _ _) (AH.set_self _ _ _)
theorem AH.le.none {H H' : AH} {a : Addr} (l : H.le H') (h : H' a = none) : H a = none := by
  cases e : H a with
  | none => rfl
  | some o => rw [l _ _ e] at h; cases h
theorem Kp.none {d : Addr} {H H' : AH} {a : Addr} (l : Kp d H H') (hd : a ≠ d) (h : H' a = none) : H a = none := by
  cases e : H a with
  | none => rfl
  | some o => rw [l _ _ hd e] at h; cases h
local macro_rules | `(tactic| wtm_at "m_ne") => `(tactic| first | assumption | exact Ne.symm (by assumption) | exact ne_ns (by assumption) (by assumption) | exact ne_sn (by assumption) (by assumption))
local macro_rules | `(tactic| wtm_at "m_hx") => `(tactic| first
  | assumption
  | exact AH.set_self _ _ _
  | ((with_reducible refine' AH.le.use ?l ?_); (case l => assumption); wtm_at "m_hx")
  | ((with_reducible refine' Kp.use ?l ?ne ?_); (case l => assumption); (case ne => wtm_at "m_ne"); wtm_at "m_hx"))

local macro_rules | `(tactic| wtm_at "m_nn") => `(tactic| first
  | assumption
  | ((with_reducible refine' AH.le.none ?l ?_); (case l => assumption); wtm_at "m_nn")
  | ((with_reducible refine' Kp.none ?l ?ne ?_); (case l => assumption); (case ne => wtm_at "m_ne"); wtm_at "m_nn"))
local macro_rules | `(tactic| wtm_at "m_put") => `(tactic| (refine' ⟨_, _, _, _, _, rfl, ?a, ?b, WK.clsP ‹WK _ _›, List.mem_of_elem_eq_true rfl, ?c, ?_⟩; (case a => wtm_at "m_hx"); (case b => wtm_at "m_hx"); (case c => ((try simp [fset]); (try (first | lia | omega))))))
section
variable {G : Gx} {n : Nat} {H : AH} {Q : AV → AH → Prop} {k : KA} (W : WW G) (WC : WK G k)
include WC
theorem init_L_cc {x d : Addr} {fl : List (Str × AV)} {nm s e : AV} (hx : H x = some (.inst k.CL d)) (hd : H d = some (.flds fl)) (hz : fl.length ≤ 900)
    (q : Q .none (H.set d (.flds (("end", e) :: ("start", s) :: ("name", nm) :: fl)))) : CC G (n + 1) k.fL [.ref x, nm, s, e] Q H := by
  refine CC.def WC.fnL_ rfl rfl ?_
  have hxd : x ≠ d := ne_ss hx hd (by intro h; cases h)
  have hxA : ∀ A, (H.set d A) x = some (.inst k.CL d) := fun A => set_other hxd hx
  wtm_at "m_open"
  wtm_at "m_go"
  refine ⟨_, _, _, _, _, rfl, hx, hd, WC.clsL, by unfold varNames; simp, by (first | lia | omega), ?_⟩
  wtm_at "m_go"
  refine ⟨_, _, _, _, _, rfl, hxA _, AH.set_self _ _ _, WC.clsL, by unfold varNames; simp, by simp [fset]; (first | lia | omega), ?_⟩
  rw [set_set]
  wtm_at "m_go"
  refine ⟨_, _, _, _, _, rfl, hxA _, AH.set_self _ _ _, WC.clsL, by unfold varNames; simp, by simp [fset]; (first | lia | omega), ?_⟩
  rw [set_set]
  wtm_at "m_go"
  exact ⟨_, .inr ⟨rfl, rfl⟩, _, .refl _, q⟩
theorem init_H_cc {x d : Addr} {fl : List (Str × AV)} {nm s : AV} (hx : H x = some (.inst k.CP d)) (hd : H d = some (.flds fl)) (hz : fl.length ≤ 900)
    (q : Q .none (H.set d (.flds (("size", s) :: ("mark", .int 0) :: ("number", nm) :: fl)))) : CC G (n + 1) k.fH [.ref x, nm, s] Q H := by
  refine CC.def WC.fnH_ rfl rfl ?_
  have hxd : x ≠ d := ne_ss hx hd (by intro h; cases h)
  have hxA : ∀ A, (H.set d A) x = some (.inst k.CP d) := fun A => set_other hxd hx
  wtm_at "m_open"
  wtm_at "m_go"
  refine ⟨_, _, _, _, _, rfl, hx, hd, WC.clsP, by unfold protoNames; simp, by (first | lia | omega), ?_⟩
  wtm_at "m_go"
  refine ⟨_, _, _, _, _, rfl, hxA _, AH.set_self _ _ _, WC.clsP, by unfold protoNames; simp, by simp [fset]; (first | lia | omega), ?_⟩
  rw [set_set]
  wtm_at "m_go"
  refine ⟨_, _, _, _, _, rfl, hxA _, AH.set_self _ _ _, WC.clsP, by unfold protoNames; simp, by simp [fset]; (first | lia | omega), ?_⟩
  rw [set_set]
  wtm_at "m_go"
  exact ⟨_, .inr ⟨rfl, rfl⟩, _, .refl _, q⟩
omit WC
theorem PV.tabI {P : PV} (h1 : P.fs.lookup ("code" : Str) = some (.ref P.lc)) (h2 : P.fs.lookup ("line_info" : Str) = some (.ref P.ll)) (h3 : P.fs.lookup ("constants" : Str) = some (.ref P.lk)) (h4 : P.fs.lookup ("locals" : Str) = some (.ref P.lv))
    (h5 : P.fs.lookup ("protos" : Str) = some (.ref P.lp)) (h6 : P.fs.lookup ("upvalue_names" : Str) = some (.ref P.lu)) (h7 : P.fs.lookup ("source" : Str) = some P.src) (h8 : P.fs.lookup ("line_defined" : Str) = some P.ldef) (h9 : P.fs.lookup ("last_line" : Str) = some P.last)
    (h10 : P.fs.lookup ("upvalue_count" : Str) = some P.upc) (h11 : P.fs.lookup ("param_count" : Str) = some P.parc) (h12 : P.fs.lookup ("is_vararg" : Str) = some P.isv) (h13 : P.fs.lookup ("max_stack" : Str) = some P.mx) : ∀ f v, P.tab.lookup f = some v → P.fs.lookup f = some v := by
  intro f v h
  have := mem_lookup h
  unfold PV.tab at this
  simp only [List.mem_cons, Prod.mk.injEq, List.not_mem_nil, or_false] at this
  rcases this with ⟨e1, e2⟩ | ⟨e1, e2⟩ | ⟨e1, e2⟩ | ⟨e1, e2⟩ | ⟨e1, e2⟩ | ⟨e1, e2⟩ | ⟨e1, e2⟩ | ⟨e1, e2⟩ | ⟨e1, e2⟩ | ⟨e1, e2⟩ | ⟨e1, e2⟩ | ⟨e1, e2⟩ | ⟨e1, e2⟩ <;> subst e1 <;> subst e2 <;> assumption
/-- no list twice -/
noncomputable def PNd (P : PV) : Prop := [P.lc, P.ll, P.lk, P.lv, P.lp, P.lu].Nodup
noncomputable def PNew (H : AH) (P : PV) : Prop := H P.lc = none ∧ H P.ll = none ∧ H P.lk = none ∧ H P.lv = none ∧ H P.lp = none ∧ H P.lu = none
include WC
theorem init_P_cc {x d : Addr} (hx : H x = some (.inst k.CP d)) (hd : H d = some (.flds []))
    (q : ∀ (H' : AH) (P : PV), Kp d H H' → P.d = d → PAt k H' x P → PNd P → PNew H P → P.fs.length ≤ 20 → P.code = [] → P.lines = [] → P.consts = [] → P.locs = [] → P.kids = [] → P.upn = [] → P.src = .byt #[] → P.ldef = .int 0 → P.last = .int 0 → P.upc = .int 0 → P.parc = .int 0 → P.isv = .int 0 → P.mx = .int 2 → Q .none H') :
    CC G (n + 2) k.fP [.ref x] Q H := by
  refine CC.def WC.fnP_ rfl rfl ?_
  have hxd : x ≠ d := ne_ss hx hd (by intro h; cases h)
  wtm_at "m_open"
  wtm_at "m_w1"
  refine SX.expr rfl (fun _ => rfl) (EV.clsCall rfl rfl rfl WC.gH WC.initH rfl rfl (fun _ _ => rfl) (fun _ => rfl) ?_)
  wtm_at "m_go"
  refine CC.cl (init_H_cc WC hx hd (by simp) ⟨rfl, ?_⟩)
  wtm_at "m_w1"
  refine gen_set fun H0 k0 e0 => ?_
  wtm_at "m_go"
  refine ⟨few (by simp), fun a1 ha1 => ?_⟩
  have nd1 : a1 ≠ d := ne_sn ha1 e0
  refine gen_alloc ha1 fun G1 l1 f1 => ?_
  wtm_at "m_go"
  wtm_at "m_put"
  wtm_at "m_w1"
  refine gen_set fun H1 k1 e1 => ?_
  wtm_at "m_go"
  refine ⟨few (by simp), fun a2 ha2 => ?_⟩
  have n12 : a1 ≠ a2 := ne_ns (o := .list []) (by wtm_at "m_hx") ha2
  have nd2 : a2 ≠ d := ne_sn ha2 e1
  refine gen_alloc ha2 fun G2 l2 f2 => ?_
  wtm_at "m_go"
  wtm_at "m_put"
  wtm_at "m_w1"
  refine gen_set fun H2 k2 e2 => ?_
  wtm_at "m_go"
  refine ⟨few (by simp), fun a3 ha3 => ?_⟩
  have n13 : a1 ≠ a3 := ne_ns (o := .list []) (by wtm_at "m_hx") ha3
  have n23 : a2 ≠ a3 := ne_ns (o := .list []) (by wtm_at "m_hx") ha3
  have nd3 : a3 ≠ d := ne_sn ha3 e2
  refine gen_alloc ha3 fun G3 l3 f3 => ?_
  wtm_at "m_go"
  wtm_at "m_put"
  wtm_at "m_w1"
  refine gen_set fun H3 k3 e3 => ?_
  wtm_at "m_go"
  refine ⟨few (by simp), fun a4 ha4 => ?_⟩
  have n14 : a1 ≠ a4 := ne_ns (o := .list []) (by wtm_at "m_hx") ha4
  have n24 : a2 ≠ a4 := ne_ns (o := .list []) (by wtm_at "m_hx") ha4
  have n34 : a3 ≠ a4 := ne_ns (o := .list []) (by wtm_at "m_hx") ha4
  have nd4 : a4 ≠ d := ne_sn ha4 e3
  refine gen_alloc ha4 fun G4 l4 f4 => ?_
  wtm_at "m_go"
  wtm_at "m_put"
  wtm_at "m_w1"
  refine gen_set fun H4 k4 e4 => ?_
  wtm_at "m_go"
  refine ⟨few (by simp), fun a5 ha5 => ?_⟩
  have n15 : a1 ≠ a5 := ne_ns (o := .list []) (by wtm_at "m_hx") ha5
  have n25 : a2 ≠ a5 := ne_ns (o := .list []) (by wtm_at "m_hx") ha5
  have n35 : a3 ≠ a5 := ne_ns (o := .list []) (by wtm_at "m_hx") ha5
  have n45 : a4 ≠ a5 := ne_ns (o := .list []) (by wtm_at "m_hx") ha5
  have nd5 : a5 ≠ d := ne_sn ha5 e4
  refine gen_alloc ha5 fun G5 l5 f5 => ?_
  wtm_at "m_go"
  wtm_at "m_put"
  wtm_at "m_w1"
  refine gen_set fun H5 k5 e5 => ?_
  wtm_at "m_go"
  refine ⟨few (by simp), fun a6 ha6 => ?_⟩
  have n16 : a1 ≠ a6 := ne_ns (o := .list []) (by wtm_at "m_hx") ha6
  have n26 : a2 ≠ a6 := ne_ns (o := .list []) (by wtm_at "m_hx") ha6
  have n36 : a3 ≠ a6 := ne_ns (o := .list []) (by wtm_at "m_hx") ha6
  have n46 : a4 ≠ a6 := ne_ns (o := .list []) (by wtm_at "m_hx") ha6
  have n56 : a5 ≠ a6 := ne_ns (o := .list []) (by wtm_at "m_hx") ha6
  have nd6 : a6 ≠ d := ne_sn ha6 e5
  refine gen_alloc ha6 fun G6 l6 f6 => ?_
  wtm_at "m_go"
  wtm_at "m_put"
  wtm_at "m_w1"
  refine gen_set fun H6 k6 e6 => ?_
  wtm_at "m_go"
  wtm_at "m_put"
  wtm_at "m_w1"
  refine gen_set fun H7 k7 e7 => ?_
  wtm_at "m_go"
  wtm_at "m_put"
  wtm_at "m_w1"
  refine gen_set fun H8 k8 e8 => ?_
  wtm_at "m_go"
  wtm_at "m_put"
  wtm_at "m_w1"
  refine gen_set fun H9 k9 e9 => ?_
  wtm_at "m_go"
  wtm_at "m_put"
  wtm_at "m_w1"
  refine gen_set fun H10 k10 e10 => ?_
  wtm_at "m_go"
  wtm_at "m_put"
  wtm_at "m_w1"
  refine gen_set fun H11 k11 e11 => ?_
  wtm_at "m_go"
  wtm_at "m_put"
  wtm_at "m_w1"
  refine gen_set fun H12 k12 e12 => ?_
  wtm_at "m_go"
  wtm_at "m_put"
  wtm_at "m_w1"
  refine ⟨_, .inr ⟨rfl, rfl⟩, _, .refl _, ?_⟩
  refine gen_set (p := fun H => Q .none H) fun H13 k13 e13 => ?_
  refine q H13 ⟨d, _, a1, a4, a2, a5, a3, a6, [], [], [], [], [], [], .byt #[], .int 0, .int 0, .int 0, .int 0, .int 0, .int 2⟩ (fun b o hb e => by wtm_at "m_hx") rfl ⟨by wtm_at "m_hx", e13, by simp [fset], PV.tabI rfl rfl rfl rfl rfl rfl rfl rfl rfl rfl rfl rfl rfl, by wtm_at "m_hx", by wtm_at "m_hx", by wtm_at "m_hx", by wtm_at "m_hx", by wtm_at "m_hx", by wtm_at "m_hx"⟩ (by simp [PNd, n12, n12.symm, n13, n13.symm, n23, n23.symm, n14, n14.symm, n24, n24.symm, n34, n34.symm, n15, n15.symm, n25, n25.symm, n35, n35.symm, n45, n45.symm, n16, n16.symm, n26, n26.symm, n36, n36.symm, n46, n46.symm, n56, n56.symm]) ⟨by wtm_at "m_nn", by wtm_at "m_nn", by wtm_at "m_nn", by wtm_at "m_nn", by wtm_at "m_nn", by wtm_at "m_nn"⟩ (by simp [fset]) rfl rfl rfl rfl rfl rfl rfl rfl rfl rfl rfl rfl rfl
end


theorem le_kp {d : Addr} {H H1 H2 : AH} (l : H.le H1) (hd : H d = none) (k : Kp d H1 H2) : H.le H2 := fun b o e => k b o (ne_ns e hd) (l _ _ e)
theorem All2.snoc {α β : Type} {R : α → β → Prop} {a : α} {b : β} (h : R a b) : ∀ {l : List α} {r : List β}, All2 R l r → All2 R (l ++ [a]) (r ++ [b])
  | [], [], _ => ⟨h, trivial⟩
  | [], _ :: _, k => k.elim
  | _ :: _, [], k => k.elim
  | _ :: _, _ :: _, k => ⟨k.1, All2.snoc h k.2⟩
theorem All2.at {α β : Type} {R : α → β → Prop} {l : List α} {r : List β} (h : All2 R l r) {i : Nat} {a : α} (e : l[i]? = some a) : ∃ b, r[i]? = some b ∧ R a b := by
  have hi : i < l.length := (List.getElem?_eq_some_iff.mp e).1
  have hj : i < r.length := by rw [← h.length]; exact hi
  refine ⟨r[i], List.getElem?_eq_getElem hj, ?_⟩
  have := h.get i hi hj
  rw [(List.getElem?_eq_some_iff.mp e).2] at this; exact this
theorem take_snoc {α : Type} {r : List α} {i : Nat} {b : α} (e : r[i]? = some b) : r.take (i + 1) = r.take i ++ [b] := by
  rw [List.take_add_one, e]; rfl
theorem Loc.le_set {ρ : Loc} {x : Str} {v : AV} (h : ρ x = none) : Loc.le ρ (ρ.set x v) := fun y u e => by
  unfold Loc.set
  rw [if_neg (by rintro rfl; rw [h] at e; cases e)]; exact e
abbrev VD := AV × AV × AV
theorem VAts.le {k : KA} {H H' : AH} (l : H.le H') {vs : List AV} {ld : List VD} (h : All2 (VAt k H) vs ld) : All2 (VAt k H') vs ld := All2.mono (fun a b (x : VAt k H a b) => x.le l) h
/-- a variable whose fields do not lie at N -/
noncomputable def VAtN (N : Addr) (k : KA) (H : AH) (v : AV) (d : VD) : Prop := ∃ x dd fs, v = .ref x ∧ H x = some (.inst k.CL dd) ∧ H dd = some (.flds fs) ∧ dd ≠ N ∧ fs.length ≤ 400 ∧ fs.lookup ("name" : Str) = some d.1 ∧ fs.lookup ("start" : Str) = some d.2.1 ∧ fs.lookup ("end" : Str) = some d.2.2
theorem VAtN.vat {N : Addr} {k : KA} {H : AH} {v : AV} {d : VD} (h : VAtN N k H v d) : VAt k H v d := by
  obtain ⟨x, dd, fs, e, h1, h2, h3, h4⟩ := h; exact ⟨x, dd, fs, e, h1, h2, h4⟩
theorem VAtN.le {N : Addr} {k : KA} {H H' : AH} {v : AV} {d : VD} (h : VAtN N k H v d) (l : H.le H') : VAtN N k H' v d := by
  obtain ⟨x, dd, fs, e, h1, h2, h3, h4⟩ := h; exact ⟨x, dd, fs, e, l _ _ h1, l _ _ h2, h3, h4⟩
theorem VAtN.kp {N : Addr} {k : KA} {H H' : AH} {v : AV} {d : VD} {fl : List (Str × AV)} (h : VAtN N k H v d) (hN : H N = some (.flds fl)) (l : Kp N H H') : VAtN N k H' v d := by
  obtain ⟨x, dd, fs, e, h1, h2, h3, h4⟩ := h; exact ⟨x, dd, fs, e, l _ _ (ne_ss h1 hN (by intro h; cases h)) h1, l _ _ h3 h2, h3, h4⟩
theorem VAtsN.le {N : Addr} {k : KA} {H H' : AH} (l : H.le H') {vs : List AV} {ld : List VD} (h : All2 (VAtN N k H) vs ld) : All2 (VAtN N k H') vs ld := All2.mono (fun a b (x : VAtN N k H a b) => x.le l) h
theorem VAtsN.kp {N : Addr} {k : KA} {H H' : AH} {fl : List (Str × AV)} (hN : H N = some (.flds fl)) (l : Kp N H H') {vs : List AV} {ld : List VD} (h : All2 (VAtN N k H) vs ld) : All2 (VAtN N k H') vs ld := All2.mono (fun a b (x : VAtN N k H a b) => x.kp hN l) h
/-- a new function body -/
structure NewP (k : KA) (H H' : AH) (x : Addr) (P : PV) : Prop where
  nx : H x = none
  nd : H P.d = none
  le : H.le H'
  at_ : PAt k H' x P
  nod : PNd P
  new : PNew H P
  sz : P.fs.length ≤ 200

theorem IFS.nil {G : Gx} {n : Nat} {sc : Scope} {K : Bool → AH → Prop} {ρ : Loc} {H : AH} (h : K true H) : IFS G n sc [] K ρ H := h
theorem IFS.one {G : Gx} {n : Nat} {sc : Scope} {c : Expr} {K : Bool → AH → Prop} {ρ : Loc} {H : AH} (h : TV G n sc c K ρ H) : IFS G n sc [c] K ρ H := h
section
variable {G : Gx} {n : Nat} {sc : Scope} {ρ : Loc} {H : AH} {Q : AV → AH → Prop} {k : KA} (W : WW G) (WC : WK G k)
include WC
theorem EV.newVar {x : Str} {p pos : Pos} {e1 e2 e3 : Expr} (hk : nameOk sc x .globalImplicit = true) (hx : x = "LocalVar") (hs : noStar [e1, e2, e3] = true)
    (h : ES G (n + 2) sc [e1, e2, e3] (fun vs H₁ => ∃ a b c, vs = [a, b, c] ∧ ∀ x H', H₁ x = none → H₁.le H' → VAt k H' (.ref x) (a, b, c) → (∀ N o, H₁ N = some o → VAtN N k H' (.ref x) (a, b, c)) → Q (.ref x) H') ρ H) : EV G (n + 2) sc (.Call (.Name x p) [e1, e2, e3] [] pos) Q ρ H := by
  subst hx
  obtain ⟨k1, k2, k3⟩ := nameOk_of hk
  refine EV.new k1 k2 k3 WC.gL WC.newL hs ?_
  intro A P D s pos r S
  refine wp_mono (h A P D s pos r S) fun xs s₁ ⟨vs, H₁, hv, S₁, a, b, c, e, q⟩ => ⟨vs, H₁, hv, S₁, ?_⟩
  subst e
  intro d y hd hy hdy
  have hx1 : ((H₁.set d (.flds [])).set y (.inst k.CL d)) y = some (.inst k.CL d) := AH.set_self _ _ _
  have hd1 : ((H₁.set d (.flds [])).set y (.inst k.CL d)) d = some (.flds []) := set_other hdy (AH.set_self _ _ _)
  refine init_L_cc WC hx1 hd1 (by simp) ⟨rfl, ?_⟩
  have l0 : H₁.le ((H₁.set d (.flds [])).set y (.inst k.CL d)) := (AH.le.trans (Mine.le_set hd) (Mine.le_set ((AH.set_ne _ _ hdy.symm).trans hy)))
  refine q y _ hy (le_kp l0 hd (Kp.set _ _ _)) ⟨y, d, _, rfl, set_other hdy.symm hx1, AH.set_self _ _ _, by simp, rfl, rfl, rfl⟩ fun N o hN => ⟨y, d, _, rfl, set_other hdy.symm hx1, AH.set_self _ _ _, ne_sn hd hN, by simp, rfl, rfl, rfl⟩
theorem EV.newProto {x : Str} {p pos : Pos} (hk : nameOk sc x .globalImplicit = true) (hx : x = "Proto")
    (h : ∀ x H' P, NewP k H H' x P → P.fs.length ≤ 20 → P.code = [] → P.lines = [] → P.consts = [] → P.locs = [] → P.kids = [] → P.upn = [] → P.src = .byt #[] → P.ldef = .int 0 → P.last = .int 0 → P.upc = .int 0 → P.parc = .int 0 → P.isv = .int 0 → P.mx = .int 2 → Q (.ref x) H') :
    EV G (n + 3) sc (.Call (.Name x p) [] [] pos) Q ρ H := by
  subst hx
  obtain ⟨k1, k2, k3⟩ := nameOk_of hk
  refine EV.new0 k1 k2 k3 WC.gP WC.newP fun d y hd hy hdy => ?_
  have hx1 : ((H.set d (.flds [])).set y (.inst k.CP d)) y = some (.inst k.CP d) := AH.set_self _ _ _
  have hd1 : ((H.set d (.flds [])).set y (.inst k.CP d)) d = some (.flds []) := set_other hdy (AH.set_self _ _ _)
  have l0 : H.le ((H.set d (.flds [])).set y (.inst k.CP d)) := (AH.le.trans (Mine.le_set hd) (Mine.le_set ((AH.set_ne _ _ hdy.symm).trans hy)))
  refine init_P_cc WC hx1 hd1 fun H' P kp ed hP nod new sz => ?_
  intro c1 c2 c3 c4 c5 c6 c7 c8 c9 c10 c11 c12 c13
  refine ⟨rfl, h y H' P ⟨hy, ed ▸ hd, le_kp l0 hd kp, hP, nod, ?_, by (first | lia | omega)⟩ sz c1 c2 c3 c4 c5 c6 c7 c8 c9 c10 c11 c12 c13⟩
  exact ⟨l0.none new.1, l0.none new.2.1, l0.none new.2.2.1, l0.none new.2.2.2.1, l0.none new.2.2.2.2.1, l0.none new.2.2.2.2.2⟩
include W
theorem copied_nc {x : Addr} {P : PV} {ld : List VD} (hP : PAt k H x P) (hv : All2 (VAt k H) P.locs ld) (z1 : P.code.length ≤ 1000) (z2 : P.lines.length ≤ 1000) (z3 : P.consts.length ≤ 1000) (z4 : P.locs.length ≤ 1000) (z5 : P.kids.length ≤ 1000) (z6 : P.upn.length ≤ 1000)
    (q : ∀ x' H' P', NewP k H H' x' P' → P'.fs.length ≤ 40 → P'.code = P.code → P'.lines = P.lines → P'.consts = P.consts → All2 (VAt k H') P'.locs ld → P'.kids = P.kids → P'.upn = P.upn → P'.src = P.src → P'.ldef = P.ldef → P'.last = P.last → P'.upc = P.upc → P'.parc = P.parc → P'.isv = P.isv → P'.mx = P.mx → Q (.ref x') H') :
    NC G (n + 4) "copied" [.ref x] Q H := by
  refine NC.def W 53 rfl rfl rfl ?_
  wtm_at "m_open"
  wtm_at "m_go"
  refine EV.newProto WC rfl rfl fun y H0 R hN hsz _ _ _ _ _ _ _ _ _ _ _ _ _ => ?_
  have L0 := hN.le
  have hx0 := hN.at_.ix
  have e0 := hN.at_.id
  have hyd : y ≠ R.d := ne_ss hx0 e0 (by intro h; cases h)
  have hdn := hN.nd
  have hyn := hN.nx
  have hP0 := hP.le L0
  wtm_at "m_go"
  -- source
  wtm_at "m_put"
  wtm_at "m_w1"
  refine gen_set fun H1 k1 e1 => ?_
  have L1 := le_kp L0 hdn k1
  have hP1 := hP.le L1
  wtm_at "m_go"
  -- line_defined
  wtm_at "m_put"
  wtm_at "m_w1"
  refine gen_set fun H2 k2 e2 => ?_
  have L2 := le_kp L1 hdn k2
  have hP2 := hP.le L2
  wtm_at "m_go"
  -- code
  refine ⟨_, _, rfl, hP2.code, by (try rw [List.length_map]); (first | lia | omega), fun a3 ha3 => ?_⟩
  have na3 : H a3 = none := L2.none ha3
  have nd3 : a3 ≠ R.d := ne_sn ha3 e2
  refine gen_alloc ha3 fun G3 l3 f3 => ?_
  wtm_at "m_go"
  wtm_at "m_put"
  have M3 := L2.trans l3
  wtm_at "m_w1"
  refine gen_set fun H3 k3 e3 => ?_
  have L3 := le_kp M3 hdn k3
  clear M3
  have hP3 := hP.le L3
  wtm_at "m_go"
  -- constants
  refine ⟨_, _, rfl, hP3.consts, by (try rw [List.length_map]); (first | lia | omega), fun a4 ha4 => ?_⟩
  have n3_4 : a3 ≠ a4 := ne_ns (show H3 a3 = some (.list (P.code.map .int)) by wtm_at "m_hx") ha4
  have na4 : H a4 = none := L3.none ha4
  have nd4 : a4 ≠ R.d := ne_sn ha4 e3
  refine gen_alloc ha4 fun G4 l4 f4 => ?_
  wtm_at "m_go"
  wtm_at "m_put"
  have M4 := L3.trans l4
  wtm_at "m_w1"
  refine gen_set fun H4 k4 e4 => ?_
  have L4 := le_kp M4 hdn k4
  clear M4
  have hP4 := hP.le L4
  wtm_at "m_go"
  -- protos
  refine ⟨_, _, rfl, hP4.kids, by (try rw [List.length_map]); (first | lia | omega), fun a5 ha5 => ?_⟩
  have n3_5 : a3 ≠ a5 := ne_ns (show H4 a3 = some (.list (P.code.map .int)) by wtm_at "m_hx") ha5
  have n4_5 : a4 ≠ a5 := ne_ns (show H4 a4 = some (.list (P.consts)) by wtm_at "m_hx") ha5
  have na5 : H a5 = none := L4.none ha5
  have nd5 : a5 ≠ R.d := ne_sn ha5 e4
  refine gen_alloc ha5 fun G5 l5 f5 => ?_
  wtm_at "m_go"
  wtm_at "m_put"
  have M5 := L4.trans l5
  wtm_at "m_w1"
  refine gen_set fun H5 k5 e5 => ?_
  have L5 := le_kp M5 hdn k5
  clear M5
  have hP5 := hP.le L5
  wtm_at "m_go"
  -- line_info
  refine ⟨_, _, rfl, hP5.lines, by (try rw [List.length_map]); (first | lia | omega), fun a6 ha6 => ?_⟩
  have n3_6 : a3 ≠ a6 := ne_ns (show H5 a3 = some (.list (P.code.map .int)) by wtm_at "m_hx") ha6
  have n4_6 : a4 ≠ a6 := ne_ns (show H5 a4 = some (.list (P.consts)) by wtm_at "m_hx") ha6
  have n5_6 : a5 ≠ a6 := ne_ns (show H5 a5 = some (.list (P.kids)) by wtm_at "m_hx") ha6
  have na6 : H a6 = none := L5.none ha6
  have nd6 : a6 ≠ R.d := ne_sn ha6 e5
  refine gen_alloc ha6 fun G6 l6 f6 => ?_
  wtm_at "m_go"
  wtm_at "m_put"
  have M6 := L5.trans l6
  wtm_at "m_w1"
  refine gen_set fun H6 k6 e6 => ?_
  have L6 := le_kp M6 hdn k6
  clear M6
  have hP6 := hP.le L6
  wtm_at "m_go"
  -- locals
  refine EV.comp rfl (fun _ _ => rfl) (IT.list ?_)
  wtm_at "m_go"
  refine ⟨_, _, rfl, hP6.locs, ?fit, fun i ys Hc => H6.le Hc ∧ All2 (VAtN R.d k Hc) ys (ld.take i) ∧ ys.length = i, ⟨.refl _, trivial, rfl⟩, ?turn, ?fin⟩
  case fit => rfl
  case turn =>
    rintro i ys Hc hi ⟨lc, hy, hlen⟩
    have hi : i < P.locs.length := hi
    refine ⟨lc _ _ hP6.locs, by (first | lia | omega), ?_⟩
    intro v ev
    obtain ⟨d, ed, hd⟩ := hv.at ev
    have hvd : VAt k Hc v d := hd.le (L6.trans lc)
    refine AS.name rfl ?_
    refine ⟨Loc.le_set rfl, ?_⟩
    refine IFS.nil (ife_t ?_)
    refine EV.newVar WC rfl rfl rfl ?_
    wtm_at "m_go"
    refine ⟨_, _, _, rfl, fun x' H' hx' l' hv' hvN => ⟨H', .refl _, lc.trans l', ?_, by simp [hlen]⟩⟩
    rw [take_snoc ed]
    exact All2.snoc (hvN _ _ (lc _ _ e6)) (VAtsN.le l' hy)
  rintro ys Hc ⟨lc, hys, hlen⟩
  refine ⟨lc _ _ hP6.locs, fun a7 hb7 => ?_⟩
  have ha7 : H6 a7 = none := lc.none hb7
  have n3_7 : a3 ≠ a7 := ne_ns (show H6 a3 = some (.list (P.code.map .int)) by wtm_at "m_hx") ha7
  have n4_7 : a4 ≠ a7 := ne_ns (show H6 a4 = some (.list (P.consts)) by wtm_at "m_hx") ha7
  have n5_7 : a5 ≠ a7 := ne_ns (show H6 a5 = some (.list (P.kids)) by wtm_at "m_hx") ha7
  have n6_7 : a6 ≠ a7 := ne_ns (show H6 a6 = some (.list (P.lines.map .int)) by wtm_at "m_hx") ha7
  have na7 : H a7 = none := L6.none ha7
  have nd7 : a7 ≠ R.d := ne_sn ha7 e6
  refine gen_alloc hb7 fun G7 l7 f7 => ?_
  have eD7 := l7 _ _ (lc _ _ e6)
  have lk7 := lc.trans l7
  clear hb7
  have vs7 : All2 (VAtN R.d k G7) ys ld := by
    have h1 : (Src.list P.lv P.locs).len = ld.length := hv.length
    rw [h1, List.take_length] at hys
    exact VAtsN.le l7 hys
  clear lc l7
  wtm_at "m_go"
  wtm_at "m_put"
  have M7 := L6.trans lk7
  wtm_at "m_w1"
  refine gen_set fun H7 k7 e7 => ?_
  have L7 := le_kp M7 hdn k7
  clear M7
  have hP7 := hP.le L7
  wtm_at "m_go"
  -- upvalue_names
  refine ⟨_, _, rfl, hP7.upn, by (try rw [List.length_map]); (first | lia | omega), fun a8 ha8 => ?_⟩
  have n3_8 : a3 ≠ a8 := ne_ns (show H7 a3 = some (.list (P.code.map .int)) by wtm_at "m_hx") ha8
  have n4_8 : a4 ≠ a8 := ne_ns (show H7 a4 = some (.list (P.consts)) by wtm_at "m_hx") ha8
  have n5_8 : a5 ≠ a8 := ne_ns (show H7 a5 = some (.list (P.kids)) by wtm_at "m_hx") ha8
  have n6_8 : a6 ≠ a8 := ne_ns (show H7 a6 = some (.list (P.lines.map .int)) by wtm_at "m_hx") ha8
  have n7_8 : a7 ≠ a8 := ne_ns (show H7 a7 = some (.list (ys)) by wtm_at "m_hx") ha8
  have na8 : H a8 = none := L7.none ha8
  have nd8 : a8 ≠ R.d := ne_sn ha8 e7
  refine gen_alloc ha8 fun G8 l8 f8 => ?_
  wtm_at "m_go"
  wtm_at "m_put"
  have M8 := L7.trans l8
  wtm_at "m_w1"
  refine gen_set fun H8 k8 e8 => ?_
  have L8 := le_kp M8 hdn k8
  clear M8
  have hP8 := hP.le L8
  wtm_at "m_go"
  -- last_line
  wtm_at "m_put"
  wtm_at "m_w1"
  refine gen_set fun H9 k9 e9 => ?_
  have L9 := le_kp L8 hdn k9
  have hP9 := hP.le L9
  wtm_at "m_go"
  -- upvalue_count
  wtm_at "m_put"
  wtm_at "m_w1"
  refine gen_set fun H10 k10 e10 => ?_
  have L10 := le_kp L9 hdn k10
  have hP10 := hP.le L10
  wtm_at "m_go"
  -- param_count
  wtm_at "m_put"
  wtm_at "m_w1"
  refine gen_set fun H11 k11 e11 => ?_
  have L11 := le_kp L10 hdn k11
  have hP11 := hP.le L11
  wtm_at "m_go"
  -- is_vararg
  wtm_at "m_put"
  wtm_at "m_w1"
  refine gen_set fun H12 k12 e12 => ?_
  have L12 := le_kp L11 hdn k12
  have hP12 := hP.le L12
  wtm_at "m_go"
  -- max_stack
  wtm_at "m_put"
  wtm_at "m_go"
  refine .ret ?_
  refine gen_set (p := fun H => Q (.ref y) H) fun H13 k13 e13 => ?_
  have L13 := le_kp L12 hdn k13
  have w7 := VAtsN.kp eD7 k7 vs7
  have w8 := VAtsN.kp (l8 _ _ e7) k8 (VAtsN.le l8 w7)
  have w9 := VAtsN.kp e8 k9 w8
  have w10 := VAtsN.kp e9 k10 w9
  have w11 := VAtsN.kp e10 k11 w10
  have w12 := VAtsN.kp e11 k12 w11
  have w13 := VAtsN.kp e12 k13 w12
  have vsF : All2 (VAt k H13) ys ld := All2.mono (fun a b (x : VAtN R.d k H13 a b) => x.vat) w13
  refine q y H13 ⟨R.d, _, a3, a6, a4, a7, a5, a8, P.code, P.lines, P.consts, ys, P.kids, P.upn, P.src, P.ldef, P.last, P.upc, P.parc, P.isv, P.mx⟩
    ⟨hyn, hdn, L13, ⟨by wtm_at "m_hx", e13, by simp [fset]; (first | lia | omega), PV.tabI rfl rfl rfl rfl rfl rfl rfl rfl rfl rfl rfl rfl rfl, by wtm_at "m_hx", by wtm_at "m_hx", by wtm_at "m_hx", by wtm_at "m_hx", by wtm_at "m_hx", by wtm_at "m_hx"⟩, by simp [PNd, n3_4, n3_4.symm, n3_5, n3_5.symm, n4_5, n4_5.symm, n3_6, n3_6.symm, n4_6, n4_6.symm, n5_6, n5_6.symm, n3_7, n3_7.symm, n4_7, n4_7.symm, n5_7, n5_7.symm, n6_7, n6_7.symm, n3_8, n3_8.symm, n4_8, n4_8.symm, n5_8, n5_8.symm, n6_8, n6_8.symm, n7_8, n7_8.symm],
      ⟨na3, na6, na4, na7, na5, na8⟩, by simp [fset]; (first | lia | omega)⟩ (by simp [fset]; (first | lia | omega)) rfl rfl rfl vsF rfl rfl rfl rfl rfl rfl rfl rfl rfl
end

theorem filterMap_shift {α : Type} (vs : List α) (a : Nat) : ∀ k : Nat, ((List.range k).map (a + ·)).filterMap (vs[·]?) = (vs.drop a).take k
  | 0 => by simp
  | k + 1 => by
    rw [List.range_succ, List.map_append, List.filterMap_append, filterMap_shift vs a k, List.take_add_one, List.getElem?_drop]
    congr 1
theorem pickL_plain {α : Type} (vs : List α) (lo hi : Option Int) : pickL vs lo hi = (vs.drop (lo.elim 0 (clipAt vs.length))).take ((hi.elim vs.length (clipAt vs.length)) - lo.elim 0 (clipAt vs.length)) := by
  unfold pickL
  rw [sliceBounds_plain, sliceRange_one, filterMap_shift]
theorem clipAt_nat {n a : Nat} : clipAt n (a : Int) = min a n := by unfold clipAt; split <;> (first | lia | omega)
theorem pickL_nat {α : Type} (vs : List α) {a b : Nat} (h : a ≤ b) (hb : b ≤ vs.length) : pickL vs (some (a : Int)) (some (b : Int)) = (vs.drop a).take (b - a) := by
  rw [pickL_plain]
  show (vs.drop (clipAt vs.length (a : Int))).take (clipAt vs.length (b : Int) - clipAt vs.length (a : Int)) = _
  rw [clipAt_nat, clipAt_nat, Nat.min_eq_left (show a ≤ vs.length by (first | lia | omega)), Nat.min_eq_left hb]
theorem pickL_to {α : Type} (vs : List α) {b : Nat} : pickL vs none (some (b : Int)) = vs.take b := by
  rw [pickL_plain]
  show (vs.drop 0).take (clipAt vs.length (b : Int) - 0) = _
  rw [clipAt_nat, List.drop_zero, Nat.sub_zero]
  by_cases h : b ≤ vs.length
  · rw [Nat.min_eq_left h]
  · rw [Nat.min_eq_right (by (first | lia | omega)), List.take_length, List.take_of_length_le (by (first | lia | omega))]
theorem pickL_from {α : Type} (vs : List α) {a : Nat} (h : a ≤ vs.length) : pickL vs (some (a : Int)) none = vs.drop a := by
  rw [pickL_plain]
  show (vs.drop (clipAt vs.length (a : Int))).take (vs.length - clipAt vs.length (a : Int)) = _
  rw [clipAt_nat, Nat.min_eq_left h, List.take_of_length_le (by simp)]
theorem pickL_init {α : Type} (vs : List α) : pickL vs none (some (-1)) = vs.dropLast := by
  rw [pickL_plain]
  show (vs.drop 0).take (clipAt vs.length (-1) - 0) = _
  have : clipAt vs.length (-1) = vs.length - 1 := by unfold clipAt; split <;> (first | lia | omega)
  rw [this, List.drop_zero, Nat.sub_zero, List.dropLast_eq_take]
theorem pickL_map {α β : Type} (f : α → β) (vs : List α) (lo hi : Option Int) : pickL (vs.map f) lo hi = (pickL vs lo hi).map f := by
  rw [pickL_plain, pickL_plain, List.length_map, ← List.map_drop, ← List.map_take]
theorem drop_take_one {α : Type} {vs : List α} {i : Nat} {x : α} (e : vs[i]? = some x) : (vs.drop i).take 1 = [x] := by
  have hi := (List.getElem?_eq_some_iff.mp e).1
  rw [List.drop_eq_getElem_cons hi, (List.getElem?_eq_some_iff.mp e).2]; rfl

theorem EVo.no {G : Gx} {n : Nat} {sc : Scope} {Q : Option Int → AH → Prop} {ρ : Loc} {H : AH} (h : Q none H) : EVo G n sc none Q ρ H := h
theorem EVo.yes {G : Gx} {n : Nat} {sc : Scope} {e : Expr} {Q : Option Int → AH → Prop} {ρ : Loc} {H : AH} (h : EV G n sc e (fun v H₁ => ∃ i, v = .int i ∧ Q (some i) H₁) ρ H) : EVo G n sc (some e) Q ρ H := h
theorem SX.sub {G : Gx} {n : Nat} {sc : Scope} {ρ : Loc} {H H' : AH} {Q : AF → Loc → AH → Prop} {st : Stmt} (k : H.le H') (h : SX G n sc st Q ρ H) : SX G n sc st Q ρ H' := fun A P D s r f S => h A P D s r f (S.sub k)
theorem EV.sub' {G : Gx} {n : Nat} {sc : Scope} {ρ : Loc} {H H' : AH} {Q : AV → AH → Prop} {e : Expr} (k : H.le H') (h : EV G n sc e Q ρ H) : EV G n sc e Q ρ H' := fun A P D s r S => h A P D s r (S.sub k)
local macro_rules | `(tactic| wtm_at "m_w3") => `(tactic| first
  | wtm_at "m_w2"
  | (with_reducible refine' EV.slice ?_)
  | (with_reducible refine' EVo.no ?_)
  | (with_reducible refine' EVo.yes ?_)
  | ((with_reducible show Exists _); refine ⟨_, rfl, ?_⟩)
  | fail)
local macro_rules | `(tactic| wtm_at "m_run") => `(tactic| repeat' (wtm_at "m_w3"))

theorem SXs.cut {G : Gx} {n : Nat} {sc : Scope} {ρ : Loc} {H : AH} {Q : AF → Loc → AH → Prop} {st : Stmt} {r : List Stmt} (J : Loc → AH → Prop) (h : SX G n sc st (fun f ρ' H' => f = .next ∧ J ρ' H') ρ H) (k : ∀ ρ' H', J ρ' H' → SXs G n sc r Q ρ' H') : SXs G n sc (st :: r) Q ρ H :=
  SXs.cons (h.mono fun f ρ' H' ⟨e, j⟩ => by subst e; exact k ρ' H' j)
theorem SX.cutJ {G : Gx} {n : Nat} {sc : Scope} {ρ : Loc} {H : AH} {Q : AF → Loc → AH → Prop} {st : Stmt} (J : Loc → AH → Prop) (h : SX G n sc st (fun f ρ' H' => f = .next ∧ J ρ' H') ρ H) (k : ∀ ρ' H', J ρ' H' → Q .next ρ' H') : SX G n sc st Q ρ H :=
  h.mono fun f ρ' H' ⟨e, j⟩ => by subst e; exact k ρ' H' j
theorem set_same {H : AH} {a : Addr} {o : AO} (h : H a = some o) : H.set a o = H := by
  funext b; unfold AH.set; split
  · rename_i e; rw [e, h]
  · rfl
theorem two_other {H : AH} {f g b : Addr} {A B : List AV} (h1 : b ≠ f) (h2 : b ≠ g) : two H f g A B b = H b := (AH.set_ne _ _ h2).trans (AH.set_ne _ _ h1)
theorem le_two {O H : AH} {f g : Addr} {A B : List AV} (l : O.le H) (hf : O f = none) (hg : O g = none) : O.le (two H f g A B) := fun b o e => by
  rw [two_other (ne_ns e hf) (ne_ns e hg)]; exact l _ _ e
theorem PAt.two {k : KA} {H : AH} {x : Addr} {P : PV} (h : PAt k H x P) (nd : PNd P) (A B : List Int) : PAt k (two H P.lc P.ll (A.map .int) (B.map .int)) x { P with code := A, lines := B } := by
  unfold PNd at nd
  simp only [List.nodup_cons, List.mem_cons, List.not_mem_nil, or_false, not_or] at nd
  obtain ⟨⟨a1, a2, a3, a4, a5⟩, ⟨b2, b3, b4, b5⟩, _⟩ := nd
  have hi : ∀ {c d}, AO.inst c d ≠ AO.list (P.code.map .int) := by intro c d h; cases h
  refine ⟨?_, ?_, h.sz, h.tab, two_fst a1, two_snd, ?_, ?_, ?_, ?_⟩
  · rw [two_other (ne_ss h.ix h.code (by intro h; cases h)) (ne_ss h.ix h.lines (by intro h; cases h))]; exact h.ix
  · show Mine.two H P.lc P.ll _ _ P.d = _
    rw [two_other (ne_ss h.id h.code (by intro h; cases h)) (ne_ss h.id h.lines (by intro h; cases h))]; exact h.id
  · show Mine.two H P.lc P.ll _ _ P.lk = _
    rw [two_other (Ne.symm a2) (Ne.symm b2)]; exact h.consts
  · show Mine.two H P.lc P.ll _ _ P.lv = _
    rw [two_other (Ne.symm a3) (Ne.symm b3)]; exact h.locs
  · show Mine.two H P.lc P.ll _ _ P.lp = _
    rw [two_other (Ne.symm a4) (Ne.symm b4)]; exact h.kids
  · show Mine.two H P.lc P.ll _ _ P.lu = _
    rw [two_other (Ne.symm a5) (Ne.symm b5)]; exact h.upn
/-- the walk over the words stands bare words from the next start -/
noncomputable def BareOk (code : List Int) (pc b : Nat) : Prop := St code (pc + b) ∧ ∀ j, pc ≤ j → j < pc + b → ¬ St code j
/-- how many are kept ahead of i -/
noncomputable def pl (fl : List Bool) (i : Nat) : Nat := (fl.take i).count true
noncomputable def keptI (fl : List Bool) (m : Nat) : List Nat := (List.range m).filter fun i => fl[i]? == some true
theorem pl_succ {fl : List Bool} {i : Nat} {b : Bool} (h : fl[i]? = some b) : pl fl (i + 1) = pl fl i + (if b = true then 1 else 0) := by
  unfold pl
  rw [take_snoc h, List.count_append]
  cases b <;> simp
theorem pl_le (fl : List Bool) (i : Nat) : pl fl i ≤ i := by
  unfold pl
  exact Nat.le_trans List.count_le_length (by rw [List.length_take]; (first | lia | omega))
theorem pl_le' (fl : List Bool) (i : Nat) : pl fl i ≤ fl.length := by
  unfold pl
  exact Nat.le_trans List.count_le_length (by rw [List.length_take]; (first | lia | omega))
theorem keptI_succ (fl : List Bool) (m : Nat) : keptI fl (m + 1) = keptI fl m ++ (if fl[m]? = some true then [m] else []) := by
  unfold keptI
  rw [List.range_succ, List.filter_append]
  congr 1
  by_cases h : fl[m]? = some true
  · rw [if_pos h]; simp [h]
  · rw [if_neg h]; simp [h]
theorem keptI_length {fl : List Bool} : ∀ {m : Nat}, m ≤ fl.length → (keptI fl m).length = pl fl m
  | 0, _ => rfl
  | m + 1, h => by
    have hm : fl[m]? = some fl[m] := List.getElem?_eq_getElem h
    rw [keptI_succ, List.length_append, keptI_length (Nat.le_of_lt h), pl_succ hm, hm]
    cases fl[m] <;> simp
/-- the places list -/
noncomputable def plL (fl : List Bool) (i : Nat) : List AV := (List.range i).map fun j => .int (pl fl j : Nat)
theorem plL_succ (fl : List Bool) (i : Nat) : plL fl (i + 1) = plL fl i ++ [.int (pl fl i : Nat)] := by unfold plL; rw [List.range_succ, List.map_append]; rfl
theorem plL_get {fl : List Bool} {i m : Nat} (h : i < m) : (plL fl m)[i]? = some (.int (pl fl i : Nat)) := by unfold plL; simp [h]
theorem plL_length (fl : List Bool) (i : Nat) : (plL fl i).length = i := by simp [plL]
open Classical in
/-- the word that stands for the word at pc -/
noncomputable def nw (code : List Int) (fl : List Bool) (pc : Nat) : Int :=
  if St code pc ∧ ([22, 31, 32] : List Int).contains (code.getD pc 0 % 64) = true
  then code.getD pc 0 % 16384 + ((pl fl ((pc : Int) + 1 + (code.getD pc 0 / 16384 - 131071)).toNat : Nat) - (pl fl pc : Nat) - 1 + 131071) * 16384 else code.getD pc 0

inductive J27_0 (H : AH) (x : Addr) (lf : Addr) (fl : List Bool) (pa : Addr) (i : Nat) (ρ' : Loc) (Hc : AH) : Prop
  | mk : (Hc = H.set pa (.list (plL fl i))) → (ρ' "p" = some (.ref x)) → (ρ' "kept" = some (.ref lf)) → (ρ' "places" = some (.ref pa)) → (ρ' "many" = some (.int (pl fl i : Nat))) → J27_0 H x lf fl pa i ρ' Hc
inductive J27_1 (x : Addr) (lf : Addr) (P : PV) (fl : List Bool) (pa : Addr) (y : Addr) (c2 : Addr) (ll : Addr) (H6 : AH) (j : Nat) (ρ : Loc) (Hc : AH) : Prop
  | mk : ∀ pc b : Nat, (j = P.code.length - pc) → (pc ≤ P.code.length) → (BareOk P.code pc b) → (b ≤ 3) → (Hc = two H6 c2 ll (((keptI fl pc).map (nw P.code fl)).map .int) (((keptI fl pc).map (fun i => P.lines.getD i 0)).map .int)) → (ρ "p" = some (.ref x)) → (ρ "kept" = some (.ref lf)) → (ρ "found" = some (.ref y)) → (ρ "places" = some (.ref pa)) → (ρ "pc" = some (.int pc)) → (ρ "bare" = some (.int b)) → J27_1 x lf P fl pa y c2 ll H6 j ρ Hc
inductive J27_2 (c2 : Addr) (ll : Addr) (H6 : AH) (ρ : Loc) (A : List Int) (B : List Int) (w : Int) (ρ' : Loc) (H' : AH) : Prop
  | mk : (ρ' = ρ.set "i" (.int w)) → (H' = two H6 c2 ll (A.map .int) (B.map .int)) → J27_2 c2 ll H6 ρ A B w ρ' H'
inductive J27_3 (x : Addr) (lf : Addr) (P : PV) (fl : List Bool) (pa : Addr) (y : Addr) (c2 : Addr) (ll : Addr) (H6 : AH) (pc : Nat) (A : List Int) (B : List Int) (kb : Bool) (ρ' : Loc) (H' : AH) : Prop
  | mk : (H' = two H6 c2 ll (A.map .int) (B.map .int)) → (ρ' "p" = some (.ref x)) → (ρ' "kept" = some (.ref lf)) → (ρ' "found" = some (.ref y)) → (ρ' "places" = some (.ref pa)) → (ρ' "pc" = some (.int pc)) → ∀ (w' : Int) (b' : Nat), (ρ' "i" = some (.int w')) → (ρ' "bare" = some (.int b')) → ((kb = true → w' = nw P.code fl pc)) → (BareOk P.code (pc + 1) b') → (b' ≤ 3) → J27_3 x lf P fl pa y c2 ll H6 pc A B kb ρ' H'
section
variable {G : Gx} {n : Nat} {sc : Scope} {ρ : Loc} {H : AH} {Q : AV → AH → Prop} {k : KA} (W : WW G) (WC : WK G k)
include W WC
theorem laid_out_nc {x lf : Addr} {P : PV} {fl : List Bool} {ld : List (AV × Nat × Nat)} (hP : PAt k H x P) (hv : All2 (VAt k H) P.locs (ld.map fun d => (d.1, .int (d.2.1 : Nat), .int (d.2.2 : Nat)))) (hl : ∀ d ∈ ld, d.2.1 ≤ P.code.length ∧ d.2.2 ≤ P.code.length)
    (hk : H lf = some (.list (fl.map .bool))) (hfl : fl.length = P.code.length) (hln : P.lines.length = P.code.length)
    (z1 : P.code.length ≤ 1000) (z3 : P.consts.length ≤ 1000) (z4 : P.locs.length ≤ 1000) (z5 : P.kids.length ≤ 1000) (z6 : P.upn.length ≤ 1000)
    (hw : ∀ s w, St P.code s → P.code[s]? = some w → (0 ≤ w ∧ w < 4294967296) ∧ ClosOk k H P w)
    (hj : ∀ s w, St P.code s → P.code[s]? = some w → fl[s]? = some true → ([22, 31, 32] : List Int).contains (w % 64) = true → 0 ≤ (s : Int) + 1 + (w / 16384 - 131071) ∧ (s : Int) + 1 + (w / 16384 - 131071) ≤ P.code.length)
    (q : ∀ x' H' P', NewP k H H' x' P' → P'.fs.length ≤ 60 → P'.code = (keptI fl P.code.length).map (nw P.code fl) → P'.lines = (keptI fl P.code.length).map (fun i => P.lines.getD i 0) → P'.consts = P.consts →
      All2 (VAtN P'.d k H') P'.locs (ld.map fun d => (d.1, .int (pl fl d.2.1 : Nat), .int (pl fl d.2.2 : Nat))) → P'.kids = P.kids → P'.src = P.src → P'.upc = P.upc → P'.mx = P.mx → Q (.ref x') H') :
    NC G (n + 6) "laid_out" [.ref x, .ref lf] Q H := by
  refine NC.def W 54 rfl rfl rfl ?_
  wtm_at "m_open"
  wtm_at "m_run"
  refine ⟨few (by simp), fun pa hpa => ?_⟩
  wtm_at "m_run"
  refine ⟨few (by simp), fun t ht => ?_⟩
  wtm_at "m_run"
  refine SX.sub (H := H.set pa (.list (plL fl 0))) (le_set ht) ?_
  have hpP : ∀ o, PAt k (H.set pa o) x P := fun o => hP.le (le_set hpa)
  have hlf : ∀ o, (H.set pa o) lf = some (.list (fl.map .bool)) := fun o => set_old hpa hk
  refine SX.for (fun _ _ => rfl) (IT.list ?_)
  have hk1 := hlf (.list (plL fl 0))
  wtm_at "m_run"
  refine ⟨_, _, rfl, hk1, rfl, (J27_0 H x lf fl pa), ⟨rfl, rfl, rfl, rfl, rfl⟩, ?_, ?_⟩
  · rintro i ρ' Hc hi ⟨rfl, g1, g2, g3, g4⟩
    have hi : i < fl.length := by have : i < (fl.map AV.bool).length := hi; simpa using this
    refine ⟨hlf _, fun v ev => ?_⟩
    obtain ⟨b, hb⟩ : ∃ b, fl[i]? = some b := ⟨_, List.getElem?_eq_getElem hi⟩
    have : v = .bool b := by rw [List.getElem?_map, hb] at ev; exact (Option.some.inj ev).symm
    subst this
    refine AS.name rfl ?_
    wtm_at "m_run"
    refine ⟨_, _, rfl, AH.set_self _ _ _, ?_⟩
    wtm_at "m_run"
    refine ⟨_, AH.set_self _ _ _, by rw [plL_length, sizeLine_eq]; (first | lia | omega), rfl, ?_⟩
    rw [set_set, ← plL_succ]
    wtm_at "m_run"
    have e := pl_succ hb
    have le := pl_le fl i
    refine ife_b (fun hbt => ?_) fun hbf => ?_
    · subst hbt
      wtm_at "m_run"
      refine ⟨_, .refl _, rfl, g1, g2, g3, ?_⟩
      rw [e]; rfl
    · subst hbf
      wtm_at "m_run"
      refine ⟨_, .refl _, rfl, g1, g2, g3, ?_⟩
      rw [e]; rfl
  rintro ρ' Hc ⟨rfl, g1, g2, g3, g4⟩
  refine ⟨hlf _, ?_⟩
  have el : (Src.list lf (fl.map AV.bool)).len = fl.length := by show (fl.map AV.bool).length = _; simp
  rw [el] at g4 ⊢
  wtm_at "m_run"
  refine ⟨_, _, rfl, AH.set_self _ _ _, ?_⟩
  wtm_at "m_run"
  refine ⟨_, AH.set_self _ _ _, by rw [plL_length, sizeLine_eq]; (first | lia | omega), rfl, ?_⟩
  rw [set_set, ← plL_succ]
  have LO : H.le (H.set pa (.list (plL fl (fl.length + 1)))) := le_set hpa
  have hpl : (H.set pa (.list (plL fl (fl.length + 1)))) pa = some (.list (plL fl (fl.length + 1))) := AH.set_self _ _ _
  wtm_at "m_w1"
  generalize H.set pa (.list (plL fl (fl.length + 1))) = O at LO hpl ⊢
  have hPO := hP.le LO
  wtm_at "m_run"
  refine copied_nc W WC hPO (VAts.le LO hv) z1 (by (first | lia | omega)) z3 z4 z5 z6 fun y H1 R hN c0 c1 c2 c3 c4 c5 c6 c7 c8 c9 c10 c11 c12 c13 => ?_
  wtm_at "m_run"
  refine ⟨few (by simp), fun c2 hc2 => ?_⟩
  refine gen_alloc hc2 fun H2 l2 f2 => ?_
  wtm_at "m_run"
  refine ⟨few (by simp), fun ll hll => ?_⟩
  have n12 : c2 ≠ ll := ne_ns f2 hll
  refine gen_alloc hll fun H3 l3 f3 => ?_
  wtm_at "m_run"
  refine ⟨few (by simp), fun t' ht' => ?_⟩
  refine gen_alloc ht' fun H4 l4 f4 => ?_
  have hyi := hN.at_.ix
  have hyd0 := hN.at_.id
  have hyd : y ≠ R.d := ne_ss hyi hyd0 (by intro h; cases h)
  have hsz := hN.sz
  wtm_at "m_run"
  wtm_at "m_put"
  refine gen_set fun H5 k5 e5 => ?_
  wtm_at "m_run"
  wtm_at "m_put"
  refine gen_set fun H6 k6 e6 => ?_
  wtm_at "m_run"
  -- the new function, two lists of its own
  have hRt : ∀ f v, R.tab.lookup f = some v → R.fs.lookup f = some v := hN.at_.tab
  let P1 : PV := { R with lc := c2, ll := ll, code := [], lines := [], fs := fset (fset R.fs "code" (.ref c2)) "line_info" (.ref ll) }
  have oc2 : O c2 = none := hN.le.none hc2
  have oll : O ll = none := hN.le.none (l2.none hll)
  have hlk := hN.at_.consts
  have hlv := hN.at_.locs
  have hlp := hN.at_.kids
  have hlu := hN.at_.upn
  have nk : R.lk ≠ c2 := ne_ns hlk hc2
  have nv : R.lv ≠ c2 := ne_ns hlv hc2
  have np : R.lp ≠ c2 := ne_ns hlp hc2
  have nu : R.lu ≠ c2 := ne_ns hlu hc2
  have mk : R.lk ≠ ll := ne_ns (l2 _ _ hlk) hll
  have mv : R.lv ≠ ll := ne_ns (l2 _ _ hlv) hll
  have mp : R.lp ≠ ll := ne_ns (l2 _ _ hlp) hll
  have mu : R.lu ≠ ll := ne_ns (l2 _ _ hlu) hll
  have dk : R.lk ≠ R.d := ne_ss hlk hyd0 (by intro h; cases h)
  have dv : R.lv ≠ R.d := ne_ss hlv hyd0 (by intro h; cases h)
  have dp : R.lp ≠ R.d := ne_ss hlp hyd0 (by intro h; cases h)
  have du : R.lu ≠ R.d := ne_ss hlu hyd0 (by intro h; cases h)
  have dc : c2 ≠ R.d := ne_sn hc2 hyd0
  have dl : ll ≠ R.d := ne_sn hll (l2 _ _ hyd0)
  have hP1 : PAt k H6 y P1 := ⟨by wtm_at "m_hx", e6, by show (fset _ _ _).length ≤ 400; simp only [fset, List.length_cons]; (first | lia | omega),
    PV.tabI rfl rfl (hRt "constants" _ rfl) (hRt "locals" _ rfl) (hRt "protos" _ rfl) (hRt "upvalue_names" _ rfl) (hRt "source" _ rfl) (hRt "line_defined" _ rfl) (hRt "last_line" _ rfl) (hRt "upvalue_count" _ rfl) (hRt "param_count" _ rfl) (hRt "is_vararg" _ rfl) (hRt "max_stack" _ rfl),
    by show H6 c2 = some (.list []); wtm_at "m_hx", by show H6 ll = some (.list []); wtm_at "m_hx", by show H6 R.lk = some (.list R.consts); wtm_at "m_hx", by show H6 R.lv = some (.list R.locs); wtm_at "m_hx", by show H6 R.lp = some (.list R.kids); wtm_at "m_hx", by show H6 R.lu = some (.list R.upn); wtm_at "m_hx"⟩
  have nd1 : PNd P1 := by
    have := hN.nod
    unfold PNd at this ⊢
    simp only [List.nodup_cons, List.mem_cons, List.not_mem_nil, or_false, not_or] at this ⊢
    obtain ⟨⟨a1, a2, a3, a4, a5⟩, ⟨b2, b3, b4, b5⟩, c⟩ := this
    exact ⟨⟨n12, nk.symm, nv.symm, np.symm, nu.symm⟩, ⟨mk.symm, mv.symm, mp.symm, mu.symm⟩, c⟩
  have L6 : O.le H6 := by
    have a1 := hN.le.trans (l2.trans (l3.trans l4))
    exact le_kp (le_kp a1 hN.nd k5) hN.nd k6
  clear e5 k5 e6 k6 f4 l4 ht' f3 l3 f2 l2 hll hc2
  have LT : ∀ A B, O.le (two H6 c2 ll A B) := fun A B => le_two L6 oc2 oll
  have hPT : ∀ A B : List Int, PAt k (two H6 c2 ll (A.map .int) (B.map .int)) y { P1 with code := A, lines := B } := fun A B => hP1.two nd1 A B
  have start : H6 = two H6 c2 ll ((([] : List Int)).map .int) (([] : List Int).map .int) := by
    unfold two
    rw [set_same (show H6 c2 = some (.list (([] : List Int).map .int)) from hP1.code)]
    exact (set_same (show H6 ll = some (.list (([] : List Int).map .int)) from hP1.lines)).symm
  refine SX.while (J27_1 x lf P fl pa y c2 ll H6) ?_ P.code.length ⟨0, 0, rfl, Nat.zero_le _, ⟨St.zero _, fun j h1 h2 => by (first | lia | omega)⟩, by (first | lia | omega), start, g1, g2, rfl, g3, rfl, rfl⟩
  · rintro j ρ Hc ⟨pc, b, rfl, hpc, hb, hb3, rfl, g1, g2, g3, g4, g5, g6⟩
    generalize hA : (keptI fl pc).map (nw P.code fl) = A
    generalize hB : (keptI fl pc).map (fun i => P.lines.getD i 0) = B
    have lenA : A.length ≤ pc := by rw [← hA, List.length_map, keptI_length (by (first | lia | omega))]; exact pl_le _ _
    have lenB : B.length ≤ pc := by rw [← hB, List.length_map, keptI_length (by (first | lia | omega))]; exact pl_le _ _
    have hPx := hP.le (LO.trans (LT (A.map .int) (B.map .int)))
    have hPy := hPT A B
    have hcx := hPx.code
    have hlx := hPx.lines
    have hlfc := LT (A.map .int) (B.map .int) _ _ (LO _ _ hk)
    have hpac := LT (A.map .int) (B.map .int) _ _ hpl
    wtm_at "m_run"
    refine ife_d (fun hlt => ?_) fun hge => ?_
    · have hlt : pc < P.code.length := by (first | lia | omega)
      obtain ⟨w, hw1⟩ : ∃ w, P.code[pc]? = some w := ⟨_, List.getElem?_eq_getElem hlt⟩
      obtain ⟨kb, hkb⟩ : ∃ kb, fl[pc]? = some kb := ⟨_, List.getElem?_eq_getElem (by (first | lia | omega))⟩
      have hg : P.code.getD pc 0 = w := by rw [List.getD_eq_getElem?_getD, hw1]; rfl
      have hwz := wsz_pos w
      refine SXs.cons (SX.cutJ (J27_2 c2 ll H6 ρ A B w) ?_ ?_)
      · wtm_at "m_run"
        exact ⟨rfl, rfl, rfl⟩
      rintro _ _ ⟨rfl, rfl⟩
      refine SXs.cons (SX.cutJ (J27_3 x lf P fl pa y c2 ll H6 pc A B kb) ?_ ?_)
      · wtm_at "m_run"
        refine ife_d (fun hb0 => ?_) fun hb0 => ?_
        · wtm_at "m_run"
          have hns : ¬ St P.code pc := hb.2 pc (Nat.le_refl _) (by (first | lia | omega))
          refine ⟨rfl, rfl, g1, g2, g3, g4, g5, w, b - 1, rfl, ?_, fun _ => ?_, ⟨?_, fun j h1 h2 => hb.2 j (by (first | lia | omega)) (by (first | lia | omega))⟩, by (first | lia | omega)⟩
          · show some (AV.int ((b : Int) - 1)) = _
            rw [show ((b : Int) - 1) = ((b - 1 : Nat) : Int) by (first | lia | omega)]
          · unfold nw; rw [if_neg (fun h => hns h.1), hg]
          · have := hb.1; rw [show pc + 1 + (b - 1) = pc + b by (first | lia | omega)]; exact this
        · have b0 : b = 0 := by (first | lia | omega)
          subst b0
          have hS : St P.code pc := hb.1
          have hw2 := hw pc w hS hw1
          have hbare : BareOk P.code (pc + 1) (wsz w - 1) := ⟨by have := hS.step hw1; rw [show pc + 1 + (wsz w - 1) = pc + wsz w by (first | lia | omega)]; exact this, fun j h1 h2 hj' => by
            obtain ⟨w', e1, e2⟩ := St.order hS hj' (by (first | lia | omega))
            rw [hw1] at e1; cases e1; (first | lia | omega)⟩
          have hbr : (ρ.set "i" (.int w)).set "bare" (.int ((wsz w : Nat) - 1)) "bare" = some (.int ((wsz w - 1 : Nat) : Int)) := by
            rw [LocSet_self]; congr 2; (first | lia | omega)
          have hnoj : kb = true → ¬ ([22, 31, 32] : List Int).contains (w % 64) = true → w = nw P.code fl pc := fun _ h => by
            unfold nw; rw [hg, if_neg (fun h' => h h'.2)]
          wtm_at "m_run"
          refine words_of_nc W WC hPx hw1 hw2.1.1 (by (first | lia | omega)) (hw2.2.le (LO.trans (LT _ _))) ?_
          wtm_at "m_run"
          refine ife_b (fun hkt => ?_) fun hkf => ?_
          · wtm_at "m_run"
            refine is_jump_nc W hw2.1.1 ?_
            wtm_at "m_run"
            refine ife_b (fun hjt => ?_) fun hjf => ?_
            · obtain ⟨t1, t2⟩ := hj pc w hS hw1 (by rw [hkb, hkt]) hjt
              wtm_at "m_run"
              refine target_nc W WC hPx hw1 hw2.1 (by (first | lia | omega)) ?_
              have q1 := pl_le' fl ((pc : Int) + 1 + (w / 16384 - 131071)).toNat
              have q2 := pl_le' fl pc
              wtm_at "m_run"
              refine GI.list hpac t1 (by (first | lia | omega)) (plL_get (by (first | lia | omega))) ?_
              wtm_at "m_run"
              refine GI.list hpac (by (first | lia | omega)) (by (first | lia | omega)) (plL_get (by (first | lia | omega))) ?_
              wtm_at "m_run"
              refine set_sbx_nc W hw2.1 ?_ ?_
              · rw [Int.toNat_natCast]; (first | lia | omega)
              wtm_at "m_run"
              refine ⟨rfl, rfl, g1, g2, g3, g4, g5, _, wsz w - 1, rfl, hbr, fun _ => ?_, hbare, by (first | lia | omega)⟩
              unfold nw
              rw [hg, if_pos ⟨hS, hjt⟩, Int.toNat_natCast]
            · wtm_at "m_run"
              exact ⟨rfl, rfl, g1, g2, g3, g4, g5, w, wsz w - 1, rfl, hbr, fun h => hnoj h (by rw [hjf]; exact Bool.false_ne_true), hbare, by (first | lia | omega)⟩
          · wtm_at "m_run"
            exact ⟨rfl, rfl, g1, g2, g3, g4, g5, w, wsz w - 1, rfl, hbr, (fun h => by rw [hkf] at h; cases h), hbare, by (first | lia | omega)⟩
      clear g1 g2 g3 g4 g5 g6
      rintro ρ' _ ⟨rfl, g1, g2, g3, g4, g5, w', b', g6, g7, hw', hbare, hb3'⟩
      have hks := keptI_succ fl pc
      rw [hkb] at hks
      wtm_at "m_run"
      refine ife_b (fun hkt => ?_) fun hkf => ?_
      · subst hkt
        have hw' := hw' rfl
        subst hw'
        rw [if_pos rfl] at hks
        wtm_at "m_run"
        refine ⟨_, _, rfl, two_fst n12, ?_⟩
        wtm_at "m_run"
        refine ⟨_, two_fst n12, by rw [List.length_map, sizeLine_eq]; (first | lia | omega), rfl, ?_⟩
        rw [two_set1 n12, show A.map AV.int ++ [AV.int (nw P.code fl pc)] = (A ++ [nw P.code fl pc]).map AV.int from by simp]
        have hPx2 := hP.le (LO.trans (LT ((A ++ [nw P.code fl pc]).map .int) (B.map .int)))
        have hPy2 := hPT (A ++ [nw P.code fl pc]) B
        have hlx2 := hPx2.lines
        wtm_at "m_run"
        refine ⟨_, _, rfl, two_snd, ?_⟩
        wtm_at "m_run"
        refine ⟨_, _, rfl, hlx2, by rw [List.length_map, sizeLine_eq]; (first | lia | omega), fun r hr => ?_⟩
        have hln1 : P.lines[pc]? = some (P.lines.getD pc 0) := by
          rw [List.getD_eq_getElem?_getD, List.getElem?_eq_getElem (show pc < P.lines.length by (first | lia | omega))]; rfl
        have hpick : pickL (P.lines.map AV.int) (some (pc : Int)) (some ((pc : Int) + 1)) = [AV.int (P.lines.getD pc 0)] := by
          rw [show ((pc : Int) + 1) = ((pc + 1 : Nat) : Int) by (first | lia | omega), pickL_nat _ (by (first | lia | omega)) (by rw [List.length_map]; (first | lia | omega)), show pc + 1 - pc = 1 by (first | lia | omega)]
          exact drop_take_one (by rw [List.getElem?_map, hln1]; rfl)
        rw [hpick]
        refine ⟨_, _, _, rfl, set_old hr two_snd, AH.set_self _ _ _, by rw [List.length_map]; simp; (first | lia | omega), rfl, ?_⟩
        wtm_at "m_run"
        refine ⟨two H6 c2 ll ((A ++ [nw P.code fl pc]).map .int) ((B ++ [P.lines.getD pc 0]).map .int), _, ?_, ?_, pc + 1, b', rfl, by (first | lia | omega), hbare, hb3', ?_, g1, g2, g3, g4, rfl, g7⟩
        · rw [← two_set2 (H := H6) (f := c2) (g := ll) (A := (A ++ [nw P.code fl pc]).map .int) (B := B.map .int), show (B ++ [P.lines.getD pc 0]).map AV.int = B.map AV.int ++ [AV.int (P.lines.getD pc 0)] from by simp]
          exact set_mono (le_set hr)
        · (first | lia | omega)
        · simp only [hks, List.map_append, hA, hB]; rfl
      · subst hkf
        rw [if_neg (by decide), List.append_nil] at hks
        wtm_at "m_run"
        refine ⟨_, _, .refl _, ?_, pc + 1, b', rfl, by (first | lia | omega), hbare, hb3', ?_, g1, g2, g3, g4, rfl, g7⟩
        · (first | lia | omega)
        · rw [hks, hA, hB]
    · have : pc = P.code.length := by (first | lia | omega)
      subst this
      wtm_at "m_run"
      generalize hH7 : two H6 c2 ll (A.map .int) (B.map .int) = H7 at *
      have e7 : H7 R.d = some (.flds P1.fs) := hPy.id
      refine EV.comp rfl (fun _ _ => rfl) (IT.list ?_)
      wtm_at "m_run"
      refine ⟨_, _, rfl, hPx.locs, ?fit, fun i ys Hc => H7.le Hc ∧ All2 (VAtN R.d k Hc) ys ((ld.map fun d => ((d.1, .int (pl fl d.2.1 : Nat), .int (pl fl d.2.2 : Nat)) : VD)).take i) ∧ ys.length = i, ⟨.refl _, trivial, rfl⟩, ?turn, ?fin⟩
      case fit => rfl
      case turn =>
        rintro i ys Hc hi ⟨lc, hy, hlen⟩
        have hi : i < P.locs.length := hi
        refine ⟨lc _ _ hPx.locs, by (first | lia | omega), ?_⟩
        intro v ev
        obtain ⟨d', ed, hd⟩ := hv.at ev
        rw [List.getElem?_map] at ed
        obtain ⟨d, ed', rfl⟩ := Option.map_eq_some_iff.mp ed
        have hdm := hl d (List.mem_of_getElem? ed')
        have hvd := hd.le ((LO.trans (by rw [← hH7]; exact LT _ _)).trans lc)
        have hpc' := lc _ _ hpac
        refine AS.name rfl ?_
        refine ⟨Loc.le_set rfl, ?_⟩
        refine IFS.nil (ife_t ?_)
        refine EV.newVar WC rfl rfl rfl ?_
        wtm_at "m_run"
        refine GI.list (k := ((d.2.1 : Nat) : Int)) hpc' (by (first | lia | omega)) (by (first | lia | omega)) (plL_get (i := d.2.1) (by (first | lia | omega))) ?_
        wtm_at "m_run"
        refine GI.list (k := ((d.2.2 : Nat) : Int)) hpc' (by (first | lia | omega)) (by (first | lia | omega)) (plL_get (i := d.2.2) (by (first | lia | omega))) ?_
        wtm_at "m_run"
        refine ⟨_, _, _, rfl, fun x' H' hx' l' hv' hvN => ⟨H', .refl _, lc.trans l', ?_, by simp [hlen]⟩⟩
        rw [take_snoc (show (ld.map fun d => ((d.1, .int (pl fl d.2.1 : Nat), .int (pl fl d.2.2 : Nat)) : VD))[i]? = some (d.1, .int (pl fl d.2.1 : Nat), .int (pl fl d.2.2 : Nat)) by rw [List.getElem?_map, ed']; rfl)]
        exact All2.snoc (hvN _ _ (lc _ _ e7)) (VAtsN.le l' hy)
      rintro ys Hc ⟨lc, hys, hlen⟩
      refine ⟨lc _ _ hPx.locs, fun a7 hb7 => ?_⟩
      have L7 : O.le H7 := by rw [← hH7]; exact LT _ _
      have nb7 : H7 a7 = none := lc.none hb7
      have hcy := hPy.code
      have hly := hPy.lines
      have hky := hPy.consts
      have hpy := hPy.kids
      have huy := hPy.upn
      refine gen_alloc hb7 fun H8 l8 f8 => ?_
      have e8 := l8 _ _ (lc _ _ e7)
      have i7 : H7 y = some (.inst k.CP R.d) := hPy.ix
      have i8 := l8 _ _ (lc _ _ i7)
      have s1 : P1.fs.length ≤ 42 := by show (fset _ _ _).length ≤ 42; simp only [fset, List.length_cons]; (first | lia | omega)
      have lk8 := lc.trans l8
      have nd7 : a7 ≠ R.d := ne_sn hb7 (lc _ _ e7)
      wtm_at "m_run"
      refine ⟨y, _, R.d, P1.fs, _, rfl, i8, e8, WC.clsP, List.mem_of_elem_eq_true rfl, by (first | lia | omega), ?_⟩
      wtm_at "m_run"
      refine .ret ?_
      refine gen_set (p := fun H => Q (.ref y) H) fun H9 k9 e9 => ?_
      have vs9 : All2 (VAtN R.d k H9) ys (ld.map fun d => ((d.1, .int (pl fl d.2.1 : Nat), .int (pl fl d.2.2 : Nat)) : VD)) := by
        have h1 : (Src.list P.lv P.locs).len = (ld.map fun d => ((d.1, .int (pl fl d.2.1 : Nat), .int (pl fl d.2.2 : Nat)) : VD)).length := by rw [List.length_map]; exact hv.length.trans (List.length_map ..)
        rw [h1, List.take_length] at hys
        exact VAtsN.kp e8 k9 (VAtsN.le l8 hys)
      have hnew := hN.new
      have L9 : O.le H9 := le_kp (L7.trans lk8) hN.nd k9
      have nH : ∀ a, O a = none → H a = none := fun a h => LO.none h
      have hh : ∀ {a : Addr} {vs : List AV}, H7 a = some (.list vs) → H9 a = some (.list vs) := fun {a vs} h => by
        have h1 := lk8 _ _ h
        exact k9 _ _ (ne_ss h1 e8 (by intro h; cases h)) h1
      have hy9 : H9 y = some (.inst k.CP R.d) := k9 _ _ hyd i8
      have ha9 : H9 a7 = some (.list ys) := k9 _ _ nd7 f8
      refine q y H9 { P1 with code := A, lines := B, fs := fset P1.fs "locals" (.ref a7), lv := a7, locs := ys } ⟨nH _ hN.nx, nH _ hN.nd, LO.trans L9,
        ⟨hy9, e9, ?_, PV.tabI rfl rfl (hRt "constants" _ rfl) rfl (hRt "protos" _ rfl) (hRt "upvalue_names" _ rfl) (hRt "source" _ rfl) (hRt "line_defined" _ rfl) (hRt "last_line" _ rfl) (hRt "upvalue_count" _ rfl) (hRt "param_count" _ rfl) (hRt "is_vararg" _ rfl) (hRt "max_stack" _ rfl),
          hh hcy, hh hly, hh hky, ha9, hh hpy, hh huy⟩, ?_, ⟨nH _ oc2, nH _ oll, nH _ hnew.2.2.1, nH _ (L7.none nb7), nH _ hnew.2.2.2.2.1, nH _ hnew.2.2.2.2.2⟩, ?_⟩ ?_ hA.symm hB.symm c3 vs9 c5 c7 c10 c13
      · show (fset P1.fs _ _).length ≤ 400; simp only [fset, List.length_cons]; (first | lia | omega)
      · have m1 : c2 ≠ a7 := ne_ns hcy nb7
        have m2 : ll ≠ a7 := ne_ns hly nb7
        have m3 : R.lk ≠ a7 := ne_ns hky nb7
        have m4 : R.lp ≠ a7 := ne_ns hpy nb7
        have m5 : R.lu ≠ a7 := ne_ns huy nb7
        have := nd1
        unfold PNd at this ⊢
        simp only [List.nodup_cons, List.mem_cons, List.not_mem_nil, or_false, not_or] at this ⊢
        obtain ⟨⟨a1, a2, a3, a4, a5⟩, ⟨b2, b3, b4, b5⟩, ⟨c3, c4, c5⟩, ⟨d4, d5⟩, c⟩ := this
        exact ⟨⟨a1, a2, m1, a4, a5⟩, ⟨b2, m2, b4, b5⟩, ⟨m3, c4, c5⟩, ⟨m4.symm, m5.symm⟩, c⟩
      · show (fset P1.fs _ _).length ≤ 200; simp only [fset, List.length_cons]; (first | lia | omega)
      · show (fset P1.fs _ _).length ≤ 60; simp only [fset, List.length_cons]; (first | lia | omega)
end

open Classical in
/-- the word that stands for a skipping load whose skipped word goes -/
noncomputable def sk (code : List Int) (fl : List Bool) (i : Nat) : Int :=
  if St code i ∧ code.getD i 0 % 64 = 2 ∧ code.getD i 0 / 16384 % 512 ≠ 0 ∧ fl[i + 1]? = some false then code.getD i 0 - code.getD i 0 / 16384 % 512 * 16384 else code.getD i 0
noncomputable def cs (code : List Int) (fl : List Bool) : List Int := (List.range code.length).map (sk code fl)
theorem cs_length (code : List Int) (fl : List Bool) : (cs code fl).length = code.length := by simp [cs]
theorem cs_get {code : List Int} {fl : List Bool} {i : Nat} (h : i < code.length) : (cs code fl)[i]? = some (sk code fl i) := by simp [cs, h]
theorem PAt.code1 {k : KA} {H : AH} {x : Addr} {P : PV} (h : PAt k H x P) (nd : PNd P) (A : List Int) : PAt k (H.set P.lc (.list (A.map .int))) x { P with code := A } := by
  have := h.two nd A P.lines
  have e : Mine.two H P.lc P.ll (A.map .int) (P.lines.map .int) = H.set P.lc (.list (A.map .int)) := by
    unfold Mine.two
    refine set_same ?_
    rw [AH.set_ne _ _ (fun e => ?_)]
    · exact h.lines
    · unfold PNd at nd
      simp only [List.nodup_cons, List.mem_cons, List.not_mem_nil, or_false, not_or] at nd
      exact nd.1.1 e.symm
  rw [e] at this; exact this
theorem VAt.kpL {k : KA} {H H' : AH} {v : AV} {d : VD} {l : Addr} {vs : List AV} (h : VAt k H v d) (hl : H l = some (.list vs)) (kp : Kp l H H') : VAt k H' v d := by
  obtain ⟨x, dd, fs, e, h1, h2, h3⟩ := h
  exact ⟨x, dd, fs, e, kp _ _ (ne_ss h1 hl (by intro h; cases h)) h1, kp _ _ (ne_ss h2 hl (by intro h; cases h)) h2, h3⟩
inductive J28_0 (x : Addr) (lf : Addr) (P : PV) (fl : List Bool) (y : Addr) (R : PV) (L : List Nat) (B0 : AH) (i : Nat) (ρ' : Loc) (Hc : AH) : Prop
  | mk : ∀ C : List Int, (Hc = B0.set R.lc (.list (C.map .int))) → (C.length = P.code.length) → ((∀ j, j < P.code.length → C[j]? = some (if j ∈ L.take i then sk P.code fl j else P.code.getD j 0))) → (ρ' "p" = some (.ref x)) → (ρ' "kept" = some (.ref lf)) → (ρ' "found" = some (.ref y)) → J28_0 x lf P fl y R L B0 i ρ' Hc
section
variable {G : Gx} {n : Nat} {sc : Scope} {ρ : Loc} {H : AH} {Q : AV → AH → Prop} {k : KA} (W : WW G) (WC : WK G k)
include W WC
theorem without_skips_nc {x lf : Addr} {P : PV} {fl : List Bool} {ld : List VD} (hP : PAt k H x P) (hv : All2 (VAt k H) P.locs ld)
    (hk : H lf = some (.list (fl.map .bool))) (hfl : fl.length = P.code.length) (hln : P.lines.length = P.code.length)
    (z1 : P.code.length ≤ 1000) (z3 : P.consts.length ≤ 1000) (z4 : P.locs.length ≤ 1000) (z5 : P.kids.length ≤ 1000) (z6 : P.upn.length ≤ 1000)
    (hw : ∀ s w, St P.code s → P.code[s]? = some w → (0 ≤ w ∧ w < 4294967296) ∧ ClosOk k H P w)
    (q : ∀ x' H' P', NewP k H H' x' P' → P'.fs.length ≤ 40 → P'.code = cs P.code fl → P'.lines = P.lines → P'.consts = P.consts → All2 (VAt k H') P'.locs ld → P'.kids = P.kids → P'.upn = P.upn → P'.src = P.src → P'.upc = P.upc → P'.mx = P.mx → Q (.ref x') H') :
    NC G (n + 5) "without_skips" [.ref x, .ref lf] Q H := by
  refine NC.def W 55 rfl rfl rfl ?_
  wtm_at "m_open"
  wtm_at "m_run"
  refine copied_nc W WC hP hv z1 (by (first | lia | omega)) z3 z4 z5 z6 fun y H1 R hN c0 c1 c2 c3 c4 c5 c6 c7 c8 c9 c10 c11 c12 c13 => ?_
  wtm_at "m_run"
  have hP1 := hP.le hN.le
  refine SX.for (fun _ _ => rfl) (IT.list ?_)
  wtm_at "m_run"
  refine starts_of_nc W WC hP1 z1 (fun s w a b => ⟨(hw s w a b).1.1, (hw s w a b).2.le hN.le⟩) fun L f hf hL hLz => ?_
  have hR := hN.at_.le (le_set (o := .list (natL L)) hf)
  have hfl1 : f ≠ R.lc := ne_sn hf hN.at_.code
  have hLf : (H1.set f (.list (natL L))) f = some (.list (natL L)) := AH.set_self _ _ _
  have LB0 : H.le (H1.set f (.list (natL L))) := hN.le.trans (le_set hf)
  have LB9 : H1.le (H1.set f (.list (natL L))) := le_set hf
  generalize H1.set f (.list (natL L)) = B0 at hR hLf LB0 LB9 ⊢
  have LB : ∀ C : List Int, H.le (B0.set R.lc (.list (C.map .int))) := fun C b o e => (AH.set_ne _ _ (ne_ns e hN.new.1)).trans (LB0 _ _ e)
  have hLB : ∀ C : List Int, (B0.set R.lc (.list (C.map .int))) f = some (.list (natL L)) := fun C => (AH.set_ne _ _ hfl1).trans hLf
  have hRC : ∀ C : List Int, PAt k (B0.set R.lc (.list (C.map .int))) y { R with code := C } := fun C => hR.code1 hN.nod C
  refine ⟨_, _, rfl, hLf, rfl, (J28_0 x lf P fl y R L B0), ⟨P.code, ?_, rfl, fun j hj => ?_, rfl, rfl, rfl⟩, ?_, ?_⟩
  · rw [← c1]; exact (set_same hR.code).symm
  · rw [List.take_zero, if_neg (by simp), List.getD_eq_getElem?_getD, List.getElem?_eq_getElem hj]; rfl
  · rintro i ρ' Hc hi ⟨C, rfl, hC, hCj, g1, g2, g3⟩
    have hi : i < L.length := by have : i < (natL L).length := hi; simpa [natL] using this
    refine ⟨hLB C, fun v ev => ?_⟩
    obtain ⟨pc, hpc⟩ : ∃ pc, L[i]? = some pc := ⟨_, List.getElem?_eq_getElem hi⟩
    have : v = .int pc := by unfold natL at ev; rw [List.getElem?_map, hpc] at ev; exact (Option.some.inj ev).symm
    subst this
    obtain ⟨hS, hlt⟩ := (hL pc).mp (List.mem_of_getElem? hpc)
    obtain ⟨w, hw1⟩ : ∃ w, P.code[pc]? = some w := ⟨_, List.getElem?_eq_getElem hlt⟩
    have hw2 := hw pc w hS hw1
    have hg : P.code.getD pc 0 = w := by rw [List.getD_eq_getElem?_getD, hw1]; rfl
    have htk := take_snoc hpc
    have hPx := hP.le (LB C)
    have hcx := hPx.code
    have hlf := LB C _ _ hk
    have hPy := hRC C
    have stay : (¬ (w % 64 = 2 ∧ w / 16384 % 512 ≠ 0 ∧ fl[pc + 1]? = some false)) → ∀ j, j < P.code.length → C[j]? = some (if j ∈ L.take (i + 1) then sk P.code fl j else P.code.getD j 0) := fun hn j hj => by
      rw [hCj j hj, htk]
      by_cases hm : j ∈ L.take i
      · rw [if_pos hm, if_pos (List.mem_append_left _ hm)]
      · rw [if_neg hm]
        by_cases hjp : j = pc
        · subst hjp
          rw [if_pos (by simp)]
          unfold sk; rw [hg, if_neg (fun h => hn h.2)]
        · rw [if_neg (by simp [hm, hjp])]
    refine AS.name rfl ?_
    wtm_at "m_run"
    refine get_op_nc W hw2.1.1 ?_
    wtm_at "m_run"
    refine ife_eq (fun e1 => ?_) fun e1 => ?_
    · wtm_at "m_run"
      refine get_c_nc W hw2.1.1 ?_
      wtm_at "m_run"
      refine ife_ne (fun e2 => ?_) fun e2 => ?_
      · wtm_at "m_run"
        refine ife_d (fun e3 => ?_) fun e3 => ?_
        · wtm_at "m_run"
          obtain ⟨b, hb⟩ : ∃ b, fl[pc + 1]? = some b := ⟨_, List.getElem?_eq_getElem (by (first | lia | omega))⟩
          rw [show ((pc : Int) + 1) = ((pc + 1 : Nat) : Int) by (first | lia | omega)]
          refine GI.bools hlf hb (by (first | lia | omega)) ?_
          wtm_at "m_run"
          refine ife_n (fun hbf => ?_) fun hbt => ?_
          · subst hbf
            wtm_at "m_run"
            refine set_c_nc W hw2.1 ?_
            wtm_at "m_run"
            refine SI.list (AH.set_self _ _ _) (by (first | lia | omega)) (by (first | lia | omega)) (by rw [List.length_map, hC]; (first | lia | omega)) ?_
            wtm_at "m_run"
            refine ⟨_, .refl _, C.set pc (w - w / 16384 % 512 * 16384), ?_, by rw [List.length_set]; exact hC, fun j hj => ?_, g1, g2, g3⟩
            · rw [set_set, List.map_set, Int.toNat_natCast]
            · rw [List.getElem?_set, htk]
              by_cases hjp : pc = j
              · subst hjp
                rw [if_pos rfl, if_pos (by (first | lia | omega)), if_pos (by simp)]
                unfold sk; rw [hg, if_pos ⟨hS, e1, e2, hb⟩]
              · rw [if_neg hjp, hCj j hj]
                by_cases hm : j ∈ L.take i
                · rw [if_pos hm, if_pos (List.mem_append_left _ hm)]
                · rw [if_neg hm, if_neg (by simp [hm, Ne.symm hjp])]
          · subst hbt
            wtm_at "m_run"
            exact ⟨_, .refl _, C, rfl, hC, stay (fun h => by rw [hb] at h; cases h.2.2), g1, g2, g3⟩
        · wtm_at "m_run"
          exact ⟨_, .refl _, C, rfl, hC, stay (fun h => by have := (List.getElem?_eq_some_iff.mp h.2.2).1; (first | lia | omega)), g1, g2, g3⟩
      · wtm_at "m_run"
        exact ⟨_, .refl _, C, rfl, hC, stay (fun h => h.2.1 e2), g1, g2, g3⟩
    · wtm_at "m_run"
      exact ⟨_, .refl _, C, rfl, hC, stay (fun h => e1 h.1), g1, g2, g3⟩
  · rintro ρ' Hc ⟨C, rfl, hC, hCj, g1, g2, g3⟩
    refine ⟨hLB C, ?_⟩
    wtm_at "m_run"
    refine .ret ?_
    have hPy := hRC C
    have eC : C = cs P.code fl := by
      apply List.ext_getElem?
      intro j
      by_cases hj : j < P.code.length
      · have el : (Src.list f (natL L)).len = L.length := by show (natL L).length = _; simp [natL]
        rw [hCj j hj, cs_get hj, el, List.take_length]
        by_cases hm : j ∈ L
        · rw [if_pos hm]
        · rw [if_neg hm]
          unfold sk; rw [if_neg (fun h => hm ((hL j).mpr ⟨h.1, hj⟩))]
      · rw [List.getElem?_eq_none (by (first | lia | omega)), List.getElem?_eq_none (by rw [cs_length]; (first | lia | omega))]
    have vsC : All2 (VAt k (B0.set R.lc (.list (C.map .int)))) R.locs ld := by
      exact All2.mono (fun a b h => (h.le LB9).kpL hR.code (Kp.set _ _ _)) c4
    exact q y _ { R with code := C } ⟨hN.nx, hN.nd, LB C, hPy, hN.nod, hN.new, hN.sz⟩ c0 eC c2 c3 vsC c5 c6 c7 c10 c13
end

/-- code as the law builds it -/
structure Good (code : List Int) : Prop where
  len : 1 ≤ code.length ∧ code.length ≤ 1000
  wd : ∀ s w, St code s → code[s]? = some w → (0 ≤ w ∧ w < 4294967296) ∧ w % 64 ≠ 25 ∧ (w % 64 = 36 → w / 16384 % 262144 = 0) ∧ s + wsz w ≤ code.length
  nx : ∀ s w, St code s → code[s]? = some w → ∀ t ∈ nexts s w, ∃ u : Nat, t = (u : Nat) ∧ St code u ∧ u < code.length
  last : code[code.length - 1]? = some 8388638
  lastS : St code (code.length - 1)
theorem Good.reach {code : List Int} (g : Good code) {s : Nat} (h : Reach code s) : St code s ∧ s < code.length := by
  induction h with
  | zero => exact ⟨St.zero _, by have := g.len; (first | lia | omega)⟩
  | step h e m ih =>
    obtain ⟨u, hu, h1, h2⟩ := g.nx _ _ ih.1 e _ m
    have : u = _ := Int.ofNat_inj.mp hu.symm
    subst this; exact ⟨h1, h2⟩
theorem Good.at {code : List Int} {s : Nat} (h : s < code.length) : code[s]? = some (code.getD s 0) := by
  rw [List.getD_eq_getElem?_getD, List.getElem?_eq_getElem h]; rfl
theorem Good.wf {code : List Int} (g : Good code) : WF code := by
  refine ⟨fun s h => ?_, fun s s' w h h' e => ?_⟩
  · obtain ⟨h1, h2⟩ := g.reach h
    refine ⟨_, Good.at h2, (g.wd _ _ h1 (Good.at h2)).2.2.2, fun t ht => ?_⟩
    obtain ⟨u, rfl, _⟩ := g.nx _ _ h1 (Good.at h2) t ht
    exact Int.natCast_nonneg u
  · by_cases hs : s' ≤ s
    · exact .inl hs
    · obtain ⟨w', e', hle⟩ := St.order (g.reach h).1 (g.reach h').1 (by (first | lia | omega))
      rw [e] at e'; cases e'; exact .inr hle
/-- what is kept -/
noncomputable def fin (code : List Int) : List Bool := (flagsOf code).set (code.length - 1) true
theorem fin_length (code : List Int) : (fin code).length = code.length := by simp [fin, flagsOf_length]
theorem fin_cov {code : List Int} {i : Nat} (h : i < code.length) (c : Cov code i) : (fin code)[i]? = some true := by
  unfold fin
  rw [List.getElem?_set]
  by_cases hi : code.length - 1 = i
  · rw [if_pos hi, if_pos (by rw [flagsOf_length]; (first | lia | omega))]
  · rw [if_neg hi]; exact (flagsOf_get h).mpr c
theorem fin_last {code : List Int} (h : 1 ≤ code.length) : (fin code)[code.length - 1]? = some true := by
  unfold fin
  rw [List.getElem?_set, if_pos rfl, if_pos (by rw [flagsOf_length]; (first | lia | omega))]
theorem fin_inv {code : List Int} {i : Nat} (h : (fin code)[i]? = some true) : i < code.length ∧ (i = code.length - 1 ∨ Cov code i) := by
  have hi : i < code.length := by rw [← fin_length]; exact (List.getElem?_eq_some_iff.mp h).1
  refine ⟨hi, ?_⟩
  by_cases e : i = code.length - 1
  · exact .inl e
  · unfold fin at h
    rw [List.getElem?_set, if_neg (fun x => e x.symm)] at h
    exact .inr ((flagsOf_get hi).mp h)
/- the skipping loads -/
theorem sk_wsz (code : List Int) (fl : List Bool) (i : Nat) : wsz (sk code fl i) = wsz (code.getD i 0) := by
  unfold sk
  split
  · rename_i h
    generalize code.getD i 0 = w at *
    unfold wsz
    rw [if_neg (by (first | lia | omega)), if_neg (by (first | lia | omega)), if_neg (by (first | lia | omega)), if_neg (by (first | lia | omega))]
  · rfl
theorem sq_cs (code : List Int) (fl : List Bool) : ∀ i, sq (cs code fl) i = sq code i
  | 0 => rfl
  | i + 1 => by
    show sq (cs code fl) i + _ = sq code i + _
    rw [sq_cs code fl i]
    congr 1
    by_cases h : sq code i < code.length
    · rw [cs_get h, Good.at h]; exact sk_wsz _ _ _
    · rw [List.getElem?_eq_none (by rw [cs_length]; (first | lia | omega)), List.getElem?_eq_none (by (first | lia | omega))]
theorem St_cs {code : List Int} {fl : List Bool} {s : Nat} : St (cs code fl) s ↔ St code s := by
  constructor
  · rintro ⟨i, h⟩; exact ⟨i, by rw [← sq_cs code fl i]; exact h⟩
  · rintro ⟨i, h⟩; exact ⟨i, by rw [sq_cs code fl i]; exact h⟩
theorem sk_or (code : List Int) (fl : List Bool) (i : Nat) : sk code fl i = code.getD i 0 ∨ (code.getD i 0 % 64 = 2 ∧ code.getD i 0 / 16384 % 512 ≠ 0 ∧ fl[i + 1]? = some false ∧ sk code fl i = code.getD i 0 - code.getD i 0 / 16384 % 512 * 16384) := by
  unfold sk
  split
  · rename_i h; exact .inr ⟨h.2.1, h.2.2.1, h.2.2.2, rfl⟩
  · exact .inl rfl
noncomputable def newcode (code : List Int) : List Int := (keptI (fin code) code.length).map (nw (cs code (fin code)) (fin code))
theorem Good.cs_w {code : List Int} (g : Good code) (fl : List Bool) {s : Nat} {w : Int} (hS : St (cs code fl) s) (e : (cs code fl)[s]? = some w) :
    (0 ≤ w ∧ w < 4294967296) ∧ (w % 64 = 36 → w / 16384 % 262144 = 0) ∧ (([22, 31, 32] : List Int).contains (w % 64) = true → w = code.getD s 0 ∧ 0 ≤ (s : Int) + 1 + (w / 16384 - 131071) ∧ (s : Int) + 1 + (w / 16384 - 131071) ≤ code.length) := by
  have hs : s < code.length := by have := (List.getElem?_eq_some_iff.mp e).1; rw [cs_length] at this; exact this
  rw [cs_get hs] at e
  have e := Option.some.inj e
  have hS' := St_cs.mp hS
  obtain ⟨h1, h2, h3, h4⟩ := g.wd s _ hS' (Good.at hs)
  rcases sk_or code fl s with h | ⟨a1, a2, a3, a4⟩
  · rw [h] at e; subst e
    refine ⟨h1, h3, fun hj => ⟨rfl, ?_⟩⟩
    have hj : code.getD s 0 % 64 = 22 ∨ code.getD s 0 % 64 = 31 ∨ code.getD s 0 % 64 = 32 := by simpa using hj
    have hm : ((s : Int) + 1 + (code.getD s 0 / 16384 - 131071)) ∈ nexts s (code.getD s 0) := by
      unfold nexts
      rcases hj with h | h | h
      · rw [if_neg (by (first | lia | omega)), if_pos (.inl h)]; simp
      · rw [if_neg (by (first | lia | omega)), if_neg (by (first | lia | omega)), if_pos h]; simp
      · rw [if_neg (by (first | lia | omega)), if_pos (.inr h)]; simp
    obtain ⟨u, hu, _, h5⟩ := g.nx s _ hS' (Good.at hs) _ hm
    (first | lia | omega)
  · rw [a4] at e
    refine ⟨by (first | lia | omega), fun h => by (first | lia | omega), fun hj => ?_⟩
    have hj : w % 64 = 22 ∨ w % 64 = 31 ∨ w % 64 = 32 := by simpa using hj
    (first | lia | omega)

theorem flags_set {code : List Int} (h : 1 ≤ code.length) (b : Bool) (hb : (flagsOf code)[code.length - 1]? = some b) (hbt : b = true) : fin code = flagsOf code := by
  unfold fin
  subst hbt
  apply List.ext_getElem?
  intro i
  rw [List.getElem?_set]
  split
  · rename_i e; subst e; rw [hb, if_pos (List.getElem?_eq_some_iff.mp hb).1]
  · rfl
theorem set_at {α : Type} {l : List α} {i : Nat} {a : α} (h : l[i]? = some a) : l.set i a = l := by
  apply List.ext_getElem?
  intro j
  rw [List.getElem?_set]
  split
  · rename_i e; subst e; rw [h, if_pos (List.getElem?_eq_some_iff.mp h).1]
  · rfl
open Classical in
/-- a part of the heap is left aside -/
theorem CL.frame {G : Gx} {n : Nat} {a : Addr} {vs : List AV} {Q : AV → AH → Prop} {H0 H1 : AH} (l : H0.le H1) (h : CL G n a vs Q H0) :
    CL G n a vs (fun v H' => ∃ H2, Q v H2 ∧ H2.le H' ∧ ∀ b o, H1 b = some o → H0 b = none → H' b = some o ∧ H2 b = none) H1 := by
  intro A P s xs r S hv
  have nP : ∀ b o, P b = some o → H1 b = none := fun b o e => by
    cases x : H1 b with
    | none => rfl
    | some o' => rw [S.apart b o' x] at e; cases e
  have S0 : StH G (fun b => if (H0 b).isSome then none else if (H1 b).isSome then s.heap.get? b else P b) H0 s := by
    refine ⟨fun b o e => ?_, fun b o e => ?_, fun b o e => S.heap b o (l b o e), fun b o e => ?_, S.gens, S.os⟩
    · have e1 := S.base b o e
      have e2 := nP b o e1
      have e3 : H0 b = none := by
        cases x : H0 b with
        | none => rfl
        | some o' => rw [l b o' x] at e2; cases e2
      simp [e1, e2, e3]
    · by_cases h0 : (H0 b).isSome = true
      · simp [h0] at e
      · by_cases h1 : (H1 b).isSome = true
        · simp [h0, h1] at e; exact e
        · simp [h0, h1] at e; exact S.keep b o e
    · simp [e]
  refine wp_mono (h A _ s xs r S0 hv) ?_
  rintro v s' ⟨av, H2, hv2, S2, q⟩
  have aside : ∀ b o, H1 b = some o → H0 b = none → H2 b = none ∧ ORep s'.heap b o := fun b o e1 e0 => by
    obtain ⟨ob, ho⟩ := (S.heap b o e1).some
    refine ⟨?_, (S.heap b o e1).at fun ob' ho' => S2.keep b ob' (by simp [e0, e1, ho'])⟩
    cases x : H2 b with
    | none => rfl
    | some o' => have := S2.apart b o' x; simp [e0, e1, ho] at this
  refine ⟨av, fun b => if (H1 b).isSome ∧ H0 b = none then H1 b else H2 b, hv2, ⟨S.base, fun b o e => ?_, fun b o e => ?_, fun b o e => ?_, S2.gens, S2.os⟩, H2, q, fun b o e => ?_, fun b o e1 e0 => ?_⟩
  · have e2 := nP b o e
    have e3 : H0 b = none := by
      cases x : H0 b with
      | none => rfl
      | some o' => rw [l b o' x] at e2; cases e2
    exact S2.keep b o (by simp [e2, e3, e])
  · by_cases hc : (H1 b).isSome ∧ H0 b = none
    · simp only [hc] at e
      have e : H1 b = some o := by simpa using e
      exact (aside b o e hc.2).2
    · rw [if_neg hc] at e; exact S2.heap b o e
  · by_cases hc : (H1 b).isSome ∧ H0 b = none
    · rw [if_pos hc] at e; exact S.apart b o e
    · rw [if_neg hc] at e
      cases x : P b with
      | none => rfl
      | some o' =>
        have := S2.apart b o e
        have e2 := nP b o' x
        have e3 : H0 b = none := by
          cases x : H0 b with
          | none => rfl
          | some o' => rw [l b o' x] at e2; cases e2
        simp [e2, e3, x] at this
  · show (if (H1 b).isSome ∧ H0 b = none then H1 b else H2 b) = some o
    by_cases hc : (H1 b).isSome ∧ H0 b = none
    · obtain ⟨o', ho'⟩ := Option.isSome_iff_exists.mp hc.1
      have := (aside b o' ho' hc.2).1
      rw [this] at e; cases e
    · rw [if_neg hc]; exact e
  · refine ⟨?_, (aside b o e1 e0).1⟩
    show (if (H1 b).isSome ∧ H0 b = none then H1 b else H2 b) = some o
    rw [if_pos ⟨by rw [e1]; rfl, e0⟩]; exact e1
theorem NC.frame {G : Gx} {n : Nat} {x : Str} {vs : List AV} {Q : AV → AH → Prop} {H0 H1 : AH} (l : H0.le H1) (h : NC G n x vs Q H0) :
    NC G n x vs (fun v H' => ∃ H2, Q v H2 ∧ H2.le H' ∧ ∀ b o, H1 b = some o → H0 b = none → H' b = some o ∧ H2 b = none) H1 := by
  obtain ⟨a, ps, body, scope, h1, h2, h3⟩ := h
  exact ⟨a, ps, body, scope, h1, h2, h3.frame l⟩
theorem NewP.kp {k : KA} {H H' H'' : AH} {x f : Addr} {P : PV} {o : AO} (h : NewP k H H' x P) (hf : H f = some o) (kp : Kp f H' H'') : PAt k H'' x P := by
  obtain ⟨n1, n2, n3, n4, n5, n6⟩ := h.new
  have a := h.at_
  exact ⟨kp _ _ (ne_sn h.nx hf) a.ix, kp _ _ (ne_sn h.nd hf) a.id, a.sz, a.tab, kp _ _ (ne_sn n1 hf) a.code, kp _ _ (ne_sn n2 hf) a.lines, kp _ _ (ne_sn n3 hf) a.consts, kp _ _ (ne_sn n4 hf) a.locs, kp _ _ (ne_sn n5 hf) a.kids, kp _ _ (ne_sn n6 hf) a.upn⟩
/-- new kids -/
theorem PAt.putKids {k : KA} {H : AH} {u a : Addr} {P : PV} (ys : List AV) (h : PAt k H u P) (nd : PNd P) (ha : H a = none) (hz : P.fs.length ≤ 399) :
    PAt k ((H.set a (.list ys)).set P.d (.flds (fset P.fs "protos" (.ref a)))) u { P with fs := fset P.fs "protos" (.ref a), lp := a, kids := ys } ∧ PNd { P with fs := fset P.fs "protos" (.ref a), lp := a, kids := ys } := by
  have had : a ≠ P.d := ne_sn ha h.id
  have hh : ∀ {b : Addr} {o : AO}, (∀ fs, o ≠ .flds fs) → H b = some o → ((H.set a (.list ys)).set P.d (.flds (fset P.fs "protos" (.ref a)))) b = some o := fun {b o} ho e => by
    rw [AH.set_ne _ _ (ne_ss e h.id (ho _)), AH.set_ne _ _ (ne_ns e ha)]; exact e
  have hL : ∀ {b : Addr} {vs : List AV}, H b = some (.list vs) → ((H.set a (.list ys)).set P.d (.flds (fset P.fs "protos" (.ref a)))) b = some (.list vs) := fun e => hh (fun fs h => by cases h) e
  refine ⟨⟨hh (fun fs h => by cases h) h.ix, AH.set_self _ _ _, by simp only [fset, List.length_cons]; (first | lia | omega),
    PV.tabI (h.tab "code" _ rfl) (h.tab "line_info" _ rfl) (h.tab "constants" _ rfl) (h.tab "locals" _ rfl) rfl (h.tab "upvalue_names" _ rfl) (h.tab "source" _ rfl) (h.tab "line_defined" _ rfl) (h.tab "last_line" _ rfl) (h.tab "upvalue_count" _ rfl) (h.tab "param_count" _ rfl) (h.tab "is_vararg" _ rfl) (h.tab "max_stack" _ rfl),
    hL h.code, hL h.lines, hL h.consts, hL h.locs, (AH.set_ne _ _ had).trans (AH.set_self _ _ _), hL h.upn⟩, ?_⟩
  have m1 : P.lc ≠ a := ne_ns h.code ha
  have m2 : P.ll ≠ a := ne_ns h.lines ha
  have m3 : P.lk ≠ a := ne_ns h.consts ha
  have m4 : P.lv ≠ a := ne_ns h.locs ha
  have m5 : P.lu ≠ a := ne_ns h.upn ha
  unfold PNd at nd ⊢
  simp only [List.nodup_cons, List.mem_cons, List.not_mem_nil, or_false, not_or] at nd ⊢
  obtain ⟨⟨a1, a2, a3, a4, a5⟩, ⟨b2, b3, b4, b5⟩, ⟨c3, c4, c5⟩, ⟨d4, d5⟩, c, e⟩ := nd
  exact ⟨⟨a1, a2, a3, m1, a5⟩, ⟨b2, b3, m2, b5⟩, ⟨c3, m3, c5⟩, ⟨m4, d5⟩, m5.symm, e⟩
theorem keptI_mem {fl : List Bool} {m i : Nat} (h : i ∈ keptI fl m) : i < m := by
  unfold keptI at h; exact List.mem_range.mp (List.mem_filter.mp h).1
inductive J29_0 (x : Addr) (P : PV) (f : Addr) (y : Addr) (H1 : AH) (ρ' : Loc) (H' : AH) : Prop
  | mk : (H' = H1.set f (.list ((fin P.code).map .bool))) → (ρ' "p" = some (.ref x)) → (ρ' "kept" = some (.ref f)) → (ρ' "whole" = some (.ref y)) → J29_0 x P f y H1 ρ' H'
section
variable {G : Gx} {n : Nat} {sc : Scope} {ρ : Loc} {H : AH} {Q : AV → AH → Prop} {k : KA} (W : WW G) (WC : WK G k)
include W WC
theorem drop_dead_nc {x : Addr} {P : PV} {ld : List (AV × Nat × Nat)} {K : AV → AV → AH → Prop} (hK : ∀ a b H H', H.le H' → K a b H → K a b H') (hP : PAt k H x P)
    (hv : All2 (VAt k H) P.locs (ld.map fun d => (d.1, .int (d.2.1 : Nat), .int (d.2.2 : Nat)))) (hl : ∀ d ∈ ld, d.2.1 ≤ P.code.length ∧ d.2.2 ≤ P.code.length)
    (hln : P.lines.length = P.code.length) (g : Good P.code)
    (z3 : P.consts.length ≤ 1000) (z4 : P.locs.length ≤ 1000) (z5 : P.kids.length ≤ 1000) (z6 : P.upn.length ≤ 1000)
    (hc : ∀ s w, St P.code s → P.code[s]? = some w → w % 64 = 36 → ∃ y Py, P.kids[0]? = some (.ref y) ∧ PAt k H y Py ∧ Py.upc = .int 2)
    (hkids : ∀ v ∈ P.kids, ∀ H', H.le H' → NC G (n + 6) "drop_dead" [v] (fun v' H'' => H'.le H'' ∧ K v v' H'') H')
    (q : ∀ x' H' P', NewP k H H' x' P' → P'.fs.length ≤ 61 → P'.code = newcode P.code → P'.lines = (keptI (fin P.code) P.code.length).map (fun i => P.lines.getD i 0) → P'.consts = P.consts →
      All2 (VAt k H') P'.locs (ld.map fun d => (d.1, .int (pl (fin P.code) d.2.1 : Nat), .int (pl (fin P.code) d.2.2 : Nat))) → All2 (fun v v' => K v v' H') P.kids P'.kids → P'.src = P.src → P'.upc = P.upc → P'.mx = P.mx → Q (.ref x') H') :
    NC G (n + 7) "drop_dead" [.ref x] Q H := by
  refine NC.def W 56 rfl rfl rfl ?_
  have z1 := g.len
  have wf := g.wf
  have hclos : ∀ s w, St P.code s → P.code[s]? = some w → ClosOk k H P w := fun s w a b e => ⟨(g.wd s w a b).2.2.1 e, hc s w a b e⟩
  wtm_at "m_open"
  wtm_at "m_run"
  refine reached_nc W WC hP (by (first | lia | omega)) wf (fun s w a b => ⟨(g.wd s w (g.reach a).1 b).1, (g.wd s w (g.reach a).1 b).2.1, hclos s w (g.reach a).1 b⟩) fun f hf => ?_
  wtm_at "m_run"
  have hPf := hP.le (le_set (o := .list ((flagsOf P.code).map .bool)) hf)
  have hfH : (H.set f (.list ((flagsOf P.code).map .bool))) f = some (.list ((flagsOf P.code).map .bool)) := AH.set_self _ _ _
  have LA : H.le (H.set f (.list ((flagsOf P.code).map .bool))) := le_set hf
  generalize hHA : H.set f (.list ((flagsOf P.code).map .bool)) = HA at hPf hfH LA ⊢
  refine copied_nc W WC hPf (VAts.le LA hv) (by (first | lia | omega)) (by (first | lia | omega)) z3 z4 z5 z6 fun y H1 R hN c0 c1 c2 c3 c4 c5 c6 c7 c8 c9 c10 c11 c12 c13 => ?_
  wtm_at "m_run"
  refine ⟨_, _, rfl, ?_⟩
  obtain ⟨b, hb⟩ : ∃ b, (flagsOf P.code)[P.code.length - 1]? = some b := ⟨_, List.getElem?_eq_getElem (by rw [flagsOf_length]; (first | lia | omega))⟩
  have hf1 := hN.le _ _ hfH
  have hR := hN.at_
  have hRc := hR.code
  have hfR : f ≠ R.lc := ne_ns hfH hN.new.1
  refine SXs.cons (SX.cutJ (J29_0 x P f y H1) ?_ ?_)
  · wtm_at "m_run"
    refine GI.listNeg hf1 (by decide) (by simp [flagsOf_length]; (first | lia | omega)) (by decide) (v := .bool b) ?_ ?_
    · rw [show (-1 + ((((flagsOf P.code).map AV.bool).length : Nat) : Int)).toNat = P.code.length - 1 by simp [flagsOf_length]; (first | lia | omega), List.getElem?_map, hb]; rfl
    wtm_at "m_run"
    refine ife_n (fun hbf => ?_) fun hbt => ?_
    · subst hbf
      wtm_at "m_run"
      refine create_ret_nc W ?_
      wtm_at "m_run"
      refine SI.last hRc (by rw [c1]; intro h; have := congrArg List.length h; simp at this; rw [this] at z1; simp at z1) ?_
      rw [List.length_map, c1]
      rw [show (P.code.map AV.int).set (P.code.length - 1) (AV.int 8388638) = P.code.map AV.int from set_at (by rw [List.getElem?_map, g.last]; rfl)]
      rw [set_same (show H1 R.lc = some (.list (P.code.map .int)) from c1 ▸ hRc)]
      wtm_at "m_run"
      refine SI.last hf1 (by intro h; have := congrArg List.length h; simp [flagsOf_length] at this; rw [this] at z1; simp at z1) ?_
      wtm_at "m_run"
      refine ⟨rfl, ?_, rfl, rfl, rfl⟩
      rw [List.length_map, flagsOf_length]
      unfold fin
      rw [List.map_set]
    · subst hbt
      wtm_at "m_run"
      refine ⟨rfl, ?_, rfl, rfl, rfl⟩
      rw [flags_set z1.1 _ hb rfl]
      exact (set_same hf1).symm
  rintro ρ' _ ⟨rfl, g1, g2, g3⟩
  have kB : Kp f H1 (H1.set f (.list ((fin P.code).map .bool))) := Kp.set _ _ _
  have hfB : (H1.set f (.list ((fin P.code).map .bool))) f = some (.list ((fin P.code).map .bool)) := AH.set_self _ _ _
  generalize H1.set f (.list ((fin P.code).map .bool)) = HB at kB hfB ⊢
  have hRB := hN.kp hfH kB
  have LB : H.le HB := le_kp (LA.trans hN.le) hf kB
  have vsB := All2.mono (fun a b (h : VAt k H1 a b) => h.kpL hf1 kB) c4
  have closB : ∀ {Hx : AH} {Px : PV} {w : Int}, H.le Hx → Px.kids = P.kids → ClosOk k H P w → ClosOk k Hx Px w := fun {Hx Px w} l e c => by
    have c' := c.le l
    intro hw; obtain ⟨a1, y, Py, a2, a3, a4⟩ := c' hw
    exact ⟨a1, y, Py, by rw [e]; exact a2, a3, a4⟩
  have hlR : R.lines.length = R.code.length := by rw [c1, c2]; exact hln
  wtm_at "m_run"
  refine without_skips_nc W WC hRB vsB hfB (by rw [fin_length, c1]) hlR (by rw [c1]; (first | lia | omega)) (by rw [c3]; (first | lia | omega)) (by rw [c4.length, List.length_map, ← List.length_map (f := fun d : AV × Nat × Nat => ((d.1, .int (d.2.1 : Nat), .int (d.2.2 : Nat)) : VD)), ← hv.length]; (first | lia | omega)) (by rw [c5]; (first | lia | omega)) (by rw [c6]; (first | lia | omega)) ?_ ?_
  · rw [c1]
    intro s w a b
    exact ⟨(g.wd s w a b).1, closB LB c5 (hclos s w a b)⟩
  rw [c1]
  intro z H2 T hT t0 t1 t2 t3 t4 t5 t6 t7 t8 t9
  rw [c2] at t2; rw [c3] at t3; rw [c5] at t5; rw [c6] at t6; rw [c7] at t7; rw [c10] at t8; rw [c13] at t9
  wtm_at "m_run"
  have hfT := hT.le _ _ hfB
  have L2 : H.le H2 := LB.trans hT.le
  have tl : T.code.length = P.code.length := by rw [t1, cs_length]
  refine laid_out_nc W WC (ld := ld) hT.at_ t4 (by rw [tl]; exact hl) hfT (by rw [fin_length, tl]) (by rw [t2, tl]; exact hln) (by rw [tl]; (first | lia | omega)) (by rw [t3]; (first | lia | omega)) (by rw [t4.length, List.length_map, ← List.length_map (f := fun d : AV × Nat × Nat => ((d.1, .int (d.2.1 : Nat), .int (d.2.2 : Nat)) : VD)), ← hv.length]; (first | lia | omega)) (by rw [t5]; (first | lia | omega)) (by rw [t6]; (first | lia | omega)) ?_ ?_ ?_
  · rw [t1]
    intro s w a b
    have h1 := g.cs_w _ a b
    refine ⟨h1.1, fun e => ⟨h1.2.1 e, ?_⟩⟩
    have hs : s < P.code.length := by have := (List.getElem?_eq_some_iff.mp b).1; rw [cs_length] at this; exact this
    rw [cs_get hs] at b
    have b := Option.some.inj b
    have e2 : w = P.code.getD s 0 := by
      rcases sk_or P.code (fin P.code) s with h | ⟨a1, a2, a3, a4⟩
      · rw [← b, h]
      · rw [← b, a4] at e; (first | lia | omega)
    have := closB L2 t5 (hclos s _ (St_cs.mp a) (Good.at hs))
    rw [← e2] at this
    exact (this e).2
  · rw [t1]
    intro s w a b _ hj
    rw [cs_length]
    exact ((g.cs_w _ a b).2.2 hj).2
  rw [t1, cs_length]
  intro u H3 P3 hM s0 s1 s2 s3 s4 s5 s6 s7 s8
  wtm_at "m_run"
  have LO3 : H.le H3 := L2.trans hM.le
  have hP3 := hP.le LO3
  have hHd : H P3.d = none := L2.none hM.nd
  have e3 := hM.at_.id
  refine EV.comp rfl (fun _ _ => rfl) (IT.list ?_)
  wtm_at "m_run"
  refine ⟨_, _, rfl, hP3.kids, ?fit, fun i ys Hc => H3.le Hc ∧ ys.length = i ∧ ∃ Hs : AH, H.le Hs ∧ Hs.le Hc ∧ Hs P3.d = none ∧ All2 (fun v v' => K v v' Hs) (P.kids.take i) ys, ⟨.refl _, rfl, H, .refl _, LO3, hHd, trivial⟩, ?turn, ?fin⟩
  case fit => rfl
  case turn =>
    rintro i ys Hc hi ⟨lc, hlen, Hs, ls, lsc, hsd, hy⟩
    have hi : i < P.kids.length := hi
    refine ⟨lc _ _ hP3.kids, by (first | lia | omega), ?_⟩
    intro v ev
    refine AS.name rfl ?_
    refine ⟨Loc.le_set rfl, ?_⟩
    refine IFS.nil (ife_t ?_)
    wtm_at "m_run"
    refine ((hkids v (List.mem_of_getElem? ev) Hs ls).frame lsc).mono ?_
    rintro v' H' ⟨H4, ⟨l4, k4⟩, l5, aside⟩
    have lc' : H3.le H' := fun b o e => by
      have e' := lc _ _ e
      cases x : Hs b with
      | none => exact (aside b o e' x).1
      | some o' =>
        have := lsc _ _ x
        rw [e'] at this; cases this
        exact l5 _ _ (l4 _ _ x)
    refine ⟨H', .refl _, lc', by simp [hlen], H4, ls.trans l4, l5, (aside _ _ (lc _ _ e3) hsd).2, ?_⟩
    rw [take_snoc ev]
    exact All2.snoc (R := fun v v' => K v v' H4) k4 (All2.mono (fun a b h => hK a b _ _ l4 h) hy)
  rintro ys Hc ⟨lc, hlen, Hs, ls, lsc, hsd, hy⟩
  refine ⟨lc _ _ hP3.kids, fun a ha => ?_⟩
  have hPc := hM.at_.le lc
  have e4 := lc _ _ e3
  have had : a ≠ P3.d := ne_sn ha e4
  obtain ⟨hfinP, hfinN⟩ := hPc.putKids ys hM.nod ha (by (first | lia | omega))
  wtm_at "m_run"
  refine ⟨u, _, P3.d, P3.fs, _, rfl, set_old ha hPc.ix, set_old ha e4, WC.clsP, List.mem_of_elem_eq_true rfl, by (first | lia | omega), ?_⟩
  wtm_at "m_run"
  refine .ret ?_
  have lfin : H.le ((Hc.set a (.list ys)).set P3.d (.flds (fset P3.fs "protos" (.ref a)))) := le_kp ((LO3.trans lc).trans (le_set ha)) hHd (Kp.set _ _ _)
  have lsfin : Hs.le ((Hc.set a (.list ys)).set P3.d (.flds (fset P3.fs "protos" (.ref a)))) := le_kp (lsc.trans (le_set ha)) hsd (Kp.set _ _ _)
  obtain ⟨n1, n2, n3, n4, n5, n6⟩ := hM.new
  have vsf := All2.mono (fun a b h => VAtN.vat h) (VAtsN.kp (set_old ha e4) (Kp.set P3.d _ (.flds (fset P3.fs "protos" (.ref a)))) (VAtsN.le (lc.trans (le_set (o := .list ys) ha)) s4))
  refine q u _ { P3 with fs := fset P3.fs "protos" (.ref a), lp := a, kids := ys } ⟨L2.none hM.nx, hHd, lfin, hfinP, hfinN, ⟨L2.none n1, L2.none n2, L2.none n3, L2.none n4, LO3.none (lc.none ha), L2.none n6⟩, ?_⟩ ?_ s1 ?_ (s3.trans t3) vsf ?_ (s6.trans t7) (s7.trans t8) (s8.trans t9)
  · show (fset P3.fs _ _).length ≤ 200; simp only [fset, List.length_cons]; (first | lia | omega)
  · show (fset P3.fs _ _).length ≤ 61; simp only [fset, List.length_cons]; (first | lia | omega)
  · show P3.lines = _; rw [s2, t2]
  · have el : (Src.list P.lp P.kids).len = P.kids.length := rfl
    rw [el, List.take_length] at hy
    exact All2.mono (fun a b h => hK a b _ _ lsfin h) hy
end

/-- the box of draws -/
noncomputable def Bx (b l : Addr) (H : AH) : Prop := ∃ (xs : List Int) (s : Int), H b = some (.list [.ref l, .int s]) ∧ H l = some (.list (xs.map .int)) ∧ 0 ≤ s ∧ s < 2147483647 ∧ xs.length ≤ 1000
/-- all but the box is kept -/
noncomputable def KB (b l : Addr) (H H' : AH) : Prop := ∀ c o, c ≠ b → c ≠ l → H c = some o → H' c = some o
theorem Bx.ne {b l : Addr} {H : AH} (h : Bx b l H) : b ≠ l := by
  obtain ⟨xs, s, h1, h2, _⟩ := h
  refine ne_ss h1 h2 fun e => ?_
  injection e with e
  cases xs with
  | nil => cases e
  | cons x r => injection e with e _; cases e
theorem Bx.le {b l : Addr} {H H' : AH} (h : Bx b l H) (k : H.le H') : Bx b l H' := by
  obtain ⟨xs, s, h1, h2, h3⟩ := h; exact ⟨xs, s, k _ _ h1, k _ _ h2, h3⟩
theorem Bx.kp {b l c : Addr} {H H' : AH} {o : AO} (h : Bx b l H) (hc : H c = some o) (ho : ∀ (xs : List Int) (s : Int), o ≠ .list [.ref l, .int s] ∧ o ≠ .list (xs.map .int)) (k : Kp c H H') : Bx b l H' := by
  obtain ⟨xs, s, h1, h2, h3⟩ := h
  exact ⟨xs, s, k _ _ (ne_ss h1 hc fun e => (ho xs s).1 e.symm) h1, k _ _ (ne_ss h2 hc fun e => (ho xs s).2 e.symm) h2, h3⟩
theorem Bx.kp' {b l c : Addr} {H H' : AH} (h : Bx b l H) (hb : b ≠ c) (hl : l ≠ c) (k : Kp c H H') : Bx b l H' := by
  obtain ⟨xs, s, h1, h2, h3⟩ := h
  exact ⟨xs, s, k _ _ hb h1, k _ _ hl h2, h3⟩
theorem KB.trans {b l : Addr} {H H' H'' : AH} (h : KB b l H H') (k : KB b l H' H'') : KB b l H H'' := fun c o h1 h2 e => k c o h1 h2 (h c o h1 h2 e)
theorem KB.refl (b l : Addr) (H : AH) : KB b l H H := fun _ _ _ _ e => e
theorem AH.le.kb {b l : Addr} {H H' : AH} (h : H.le H') : KB b l H H' := fun c o _ _ e => h c o e
theorem KB.use {b l : Addr} {H H' : AH} {c : Addr} {o : AO} (k : KB b l H H') (h1 : c ≠ b) (h2 : c ≠ l) (e : H c = some o) : H' c = some o := k c o h1 h2 e
theorem KB.none {b l : Addr} {H H' : AH} {c : Addr} (k : KB b l H H') (B : Bx b l H') (e : H' c = none) : H c = none := by
  obtain ⟨xs, s, h1, h2, _⟩ := B
  cases x : H c with
  | none => rfl
  | some o => rw [k c o (ne_sn e h1) (ne_sn e h2) x] at e; cases e
section
variable {G : Gx} {n : Nat} {sc : Scope} {ρ : Loc} {H : AH} {Q : AV → AH → Prop} {k : KA} (W : WW G) (WC : WK G k)
include W
theorem law_take_nc {b l : Addr} {m : Int} (B : Bx b l H) (hm : 0 < m) (hm' : m < 1000000) (q : ∀ (r : Nat) H', KB b l H H' → Bx b l H' → (r : Int) < m → Q (.int (r : Nat)) H') : NC G (n + 1) "_law_take" [.ref b, .int m] Q H := by
  have hbl := B.ne
  obtain ⟨xs, s, h1, h2, h3, h4, h5⟩ := B
  have fin : ∀ (v : Int) (ρ : Loc) H', KB b l H H' → Bx b l H' → DoneP Q (.ret (.int (v.fmod m))) ρ H' := fun v ρ H' a c => .ret (by
    have e := Int.fmod_eq_emod_of_nonneg v (show 0 ≤ m by (first | lia | omega))
    have e1 := Int.emod_nonneg v (show m ≠ 0 by (first | lia | omega))
    have e2 := Int.emod_lt_of_pos v hm
    obtain ⟨r, hr⟩ := Int.eq_ofNat_of_zero_le e1
    have := q r H' a c (by (first | lia | omega))
    rw [e, hr]; exact this)
  refine NC.def W 60 rfl rfl rfl ?_
  wtm_at "m_open"
  wtm_at "m_run"
  refine GI.list h1 (by decide) (by decide) (v := .ref l) rfl ?_
  wtm_at "m_run"
  refine ife_d (fun hp => ?_) fun hp => ?_
  · obtain ⟨x, r, rfl⟩ : ∃ x r, xs = x :: r := by
      cases xs with
      | nil => simp at hp
      | cons x r => exact ⟨x, r, rfl⟩
    wtm_at "m_run"
    refine GI.list h1 (by decide) (by decide) (v := .ref l) rfl ?_
    refine ⟨_, _, rfl, h2, ?_⟩
    wtm_at "m_run"
    refine ⟨.int x, r.map .int, rfl, h2, by simp at h5 ⊢; rw [sizeLine_eq]; (first | lia | omega), ?_⟩
    wtm_at "m_run"
    refine BO.mod (by (first | lia | omega)) ?_
    refine fin x _ _ (fun c o e1 e2 e => (AH.set_ne _ _ e2).trans e) ⟨r, s, (AH.set_ne _ _ hbl).trans h1, AH.set_self _ _ _, h3, h4, by simp at h5 ⊢; (first | lia | omega)⟩
  · wtm_at "m_run"
    refine GI.list h1 (by decide) (by decide) (v := .int s) rfl ?_
    wtm_at "m_run"
    refine BO.mul (by (first | lia | omega)) ?_
    wtm_at "m_run"
    refine BO.mod (by decide) ?_
    wtm_at "m_run"
    refine SI.list h1 (by decide) (by decide) (by simp) ?_
    wtm_at "m_run"
    have e1 : ((s * 48271 + 11).fmod 2147483647) = (s * 48271 + 11) % 2147483647 := Int.fmod_eq_emod_of_nonneg _ (by decide)
    refine GI.list (AH.set_self _ _ _) (by decide) (by decide) (v := .int ((s * 48271 + 11).fmod 2147483647)) rfl ?_
    wtm_at "m_run"
    refine BO.fdiv (by decide) (by decide) ?_
    wtm_at "m_run"
    refine BO.mod (by (first | lia | omega)) ?_
    refine fin _ _ _ (fun c o e1 e2 e => (AH.set_ne _ _ e1).trans e) ⟨xs, _, AH.set_self _ _ _, (AH.set_ne _ _ hbl.symm).trans h2, by rw [e1]; (first | lia | omega), by rw [e1]; (first | lia | omega), h5⟩
end

inductive Kd where
  | word | jump | bare
deriving DecidableEq
noncomputable def Kd.str : Kd → Str
  | .word => "word"
  | .jump => "jump"
  | .bare => "bare"
abbrev Item := Kd × Int
noncomputable def ItemAt (H : AH) (v : AV) (d : Item) : Prop := ∃ t, v = .ref t ∧ H t = some (.tup [.str d.1.str, .int d.2])
theorem ItemAt.le {H H' : AH} {v : AV} {d : Item} (h : ItemAt H v d) (l : H.le H') : ItemAt H' v d := by
  obtain ⟨t, e, h⟩ := h; exact ⟨t, e, l _ _ h⟩
theorem ItemsAt.le {H H' : AH} {vs : List AV} {ds : List Item} (h : All2 (ItemAt H) vs ds) (l : H.le H') : All2 (ItemAt H') vs ds := All2.mono (fun a b x => ItemAt.le x l) h
/-- what one turn adds -/
inductive Blk : List Item → Prop where
  | one (w : Int) (h : 0 ≤ w ∧ w < 4294967296) (o : w % 64 = 0 ∨ w % 64 = 1 ∨ w % 64 = 30) : Blk [(.word, w)]
  | load (w v : Int) (h : 0 ≤ w ∧ w < 4294967296) (h' : 0 ≤ v ∧ v < 4294967296) (o : w % 64 = 2 ∧ w / 16384 % 512 ≠ 0) (o' : v % 64 = 2 ∧ v / 16384 % 512 = 0) : Blk [(.word, w), (.word, v)]
  | jump (o : Int) (h : o = 22 ∨ o = 31 ∨ o = 32) : Blk [(.jump, o)]
  | test (w : Int) (h : 0 ≤ w ∧ w < 4294967296) (o : isTest (w % 64) = true) : Blk [(.word, w), (.jump, 22)]
  | clos (w b c : Int) (h : 0 ≤ w ∧ w < 4294967296) (o : w % 64 = 36 ∧ w / 16384 % 262144 = 0) : Blk [(.word, w), (.bare, b), (.bare, c)]
  | sets (w b : Int) (h : 0 ≤ w ∧ w < 4294967296) (o : w % 64 = 34 ∧ w / 16384 % 512 = 0) : Blk [(.word, w), (.bare, b)]
theorem isT {o : Int} (h : o = 23 ∨ o = 24 ∨ o = 26 ∨ o = 27 ∨ o = 33) : isTest o = true := by
  rcases h with h | h | h | h | h <;> rw [h] <;> rfl
theorem bx_ne1 {b l t : Addr} {H : AH} {vs : List AV} (B : Bx b l H) (h : H t = some (.tup vs)) : t ≠ b := by
  obtain ⟨xs, s, h1, h2, _⟩ := B; exact ne_ss h h1 (by intro h; cases h)
theorem bx_ne2 {b l t : Addr} {H : AH} {vs : List AV} (B : Bx b l H) (h : H t = some (.tup vs)) : t ≠ l := by
  obtain ⟨xs, s, h1, h2, _⟩ := B; exact ne_ss h h2 (by intro h; cases h)
section
variable {G : Gx} {n : Nat} {sc : Scope} {ρ : Loc} {H : AH} {Q : AV → AH → Prop} {k : KA} (W : WW G) (WC : WK G k)
include W
theorem law_some_nc {b l : Addr} {fm : Int} (B : Bx b l H) (hf : 0 ≤ fm ∧ fm < 12) (q : ∀ f vs its H', KB b l H H' → Bx b l H' → H' f = some (.list vs) → All2 (ItemAt H') vs its → Blk its → Q (.ref f) H') : NC G (n + 2) "_law_some" [.ref b, .int fm] Q H := by
  refine NC.def W 64 rfl rfl rfl ?_
  wtm_at "m_open"
  wtm_at "m_run"
  refine law_take_nc W B (by decide) (by decide) fun a H1 k1 B1 ha => ?_
  wtm_at "m_run"
  refine ife_d (fun c1 => ?_) fun c1 => ?_
  · wtm_at "m_run"
    refine ife_eq (fun c2 => ?_) fun c2 => ?_
    · wtm_at "m_run"
      refine law_take_nc W B1 (by decide) (by decide) fun r H2 k2 B2 hr => ?_
      wtm_at "m_run"
      refine law_word_nc W (by (first | lia | omega)) (by (first | lia | omega)) (by (first | lia | omega)) ?_
      wtm_at "m_run"
      refine ⟨few (by simp), fun t1 ht1 => ?_⟩
      refine gen_alloc ht1 fun G1 l1 f1 => ?_
      wtm_at "m_run"
      refine ⟨few (by simp), fun f hf' => .ret ?_⟩
      refine gen_alloc (p := fun H => Q (.ref f) H) hf' fun Gf lf ff => ?_
      exact q f _ [(.word, _)] Gf ((k1.trans k2).trans ((l1).trans lf).kb) (B2.le ((l1).trans lf)) ff ⟨⟨t1, rfl, (lf) _ _ f1⟩, trivial⟩ (Blk.one _ (by (first | lia | omega)) (by (first | lia | omega)))
    · wtm_at "m_run"
      refine law_word_nc W (by (first | lia | omega)) (by (first | lia | omega)) (by (first | lia | omega)) ?_
      wtm_at "m_run"
      refine ⟨few (by simp), fun t1 ht1 => ?_⟩
      refine gen_alloc ht1 fun G1 l1 f1 => ?_
      wtm_at "m_run"
      refine ⟨few (by simp), fun f hf' => .ret ?_⟩
      refine gen_alloc (p := fun H => Q (.ref f) H) hf' fun Gf lf ff => ?_
      exact q f _ [(.word, _)] Gf (k1.trans ((l1).trans lf).kb) (B1.le ((l1).trans lf)) ff ⟨⟨t1, rfl, (lf) _ _ f1⟩, trivial⟩ (Blk.one _ (by (first | lia | omega)) (by (first | lia | omega)))
  wtm_at "m_run"
  refine ife_eq (fun c2 => ?_) fun c2 => ?_
  · wtm_at "m_run"
    refine law_word_nc W (by (first | lia | omega)) (by (first | lia | omega)) (by (first | lia | omega)) ?_
    wtm_at "m_run"
    refine ⟨few (by simp), fun t1 ht1 => ?_⟩
    refine gen_alloc ht1 fun G1 l1 f1 => ?_
    wtm_at "m_run"
    refine law_word_nc W (by (first | lia | omega)) (by (first | lia | omega)) (by (first | lia | omega)) ?_
    wtm_at "m_run"
    refine ⟨few (by simp), fun t2 ht2 => ?_⟩
    refine gen_alloc ht2 fun G2 l2 f2 => ?_
    wtm_at "m_run"
    refine ⟨few (by simp), fun f hf' => .ret ?_⟩
    refine gen_alloc (p := fun H => Q (.ref f) H) hf' fun Gf lf ff => ?_
    exact q f _ [(.word, _), (.word, _)] Gf (k1.trans (((l1).trans l2).trans lf).kb) (B1.le (((l1).trans l2).trans lf)) ff ⟨⟨t1, rfl, ((l2).trans lf) _ _ f1⟩, ⟨⟨t2, rfl, (lf) _ _ f2⟩, trivial⟩⟩ (Blk.load _ _ (by (first | lia | omega)) (by (first | lia | omega)) (by (first | lia | omega)) (by (first | lia | omega)))
  wtm_at "m_run"
  refine ife_d (fun c3 => ?_) fun c3 => ?_
  · wtm_at "m_run"
    refine ⟨few (by simp), fun t1 ht1 => ?_⟩
    refine gen_alloc ht1 fun G1 l1 f1 => ?_
    wtm_at "m_run"
    refine ⟨few (by simp), fun f hf' => .ret ?_⟩
    refine gen_alloc (p := fun H => Q (.ref f) H) hf' fun Gf lf ff => ?_
    exact q f _ [(.jump, _)] Gf (k1.trans ((l1).trans lf).kb) (B1.le ((l1).trans lf)) ff ⟨⟨t1, rfl, (lf) _ _ f1⟩, trivial⟩ (Blk.jump _ (.inl rfl))
  wtm_at "m_run"
  refine ife_eq (fun c4 => ?_) fun c5 => ?_
  · wtm_at "m_run"
    refine law_take_nc W B1 (by decide) (by decide) fun r H2 k2 B2 hr => ?_
    wtm_at "m_run"
    refine law_word_nc W (by (first | lia | omega)) (by (first | lia | omega)) (by (first | lia | omega)) ?_
    wtm_at "m_run"
    refine ⟨few (by simp), fun t1 ht1 => ?_⟩
    refine gen_alloc ht1 fun G1 l1 f1 => ?_
    wtm_at "m_run"
    refine ⟨few (by simp), fun t2 ht2 => ?_⟩
    refine gen_alloc ht2 fun G2 l2 f2 => ?_
    wtm_at "m_run"
    refine ⟨few (by simp), fun f hf' => .ret ?_⟩
    refine gen_alloc (p := fun H => Q (.ref f) H) hf' fun Gf lf ff => ?_
    exact q f _ [(.word, _), (.jump, 22)] Gf ((k1.trans k2).trans (((l1).trans l2).trans lf).kb) (B2.le (((l1).trans l2).trans lf)) ff ⟨⟨t1, rfl, ((l2).trans lf) _ _ f1⟩, ⟨⟨t2, rfl, (lf) _ _ f2⟩, trivial⟩⟩ (Blk.test _ (by (first | lia | omega)) (isT (by (first | lia | omega))))
  wtm_at "m_run"
  refine ife_eq (fun c4 => ?_) fun c6 => ?_
  · wtm_at "m_run"
    refine law_take_nc W B1 (by decide) (by decide) fun r H2 k2 B2 hr => ?_
    wtm_at "m_run"
    refine BO.mod (by decide) ?_
    wtm_at "m_run"
    rw [Int.fmod_eq_emod_of_nonneg _ (show (0 : Int) ≤ 2 by decide)]
    refine law_word_nc W (by (first | lia | omega)) (by (first | lia | omega)) (by (first | lia | omega)) ?_
    wtm_at "m_run"
    refine ⟨few (by simp), fun t1 ht1 => ?_⟩
    refine gen_alloc ht1 fun G1 l1 f1 => ?_
    wtm_at "m_run"
    refine ⟨few (by simp), fun t2 ht2 => ?_⟩
    refine gen_alloc ht2 fun G2 l2 f2 => ?_
    wtm_at "m_run"
    refine ⟨few (by simp), fun f hf' => .ret ?_⟩
    refine gen_alloc (p := fun H => Q (.ref f) H) hf' fun Gf lf ff => ?_
    exact q f _ [(.word, _), (.jump, 22)] Gf ((k1.trans k2).trans (((l1).trans l2).trans lf).kb) (B2.le (((l1).trans l2).trans lf)) ff ⟨⟨t1, rfl, ((l2).trans lf) _ _ f1⟩, ⟨⟨t2, rfl, (lf) _ _ f2⟩, trivial⟩⟩ (Blk.test _ (by (first | lia | omega)) (isT (by (first | lia | omega))))
  wtm_at "m_run"
  refine ife_eq (fun c4 => ?_) fun c7 => ?_
  · wtm_at "m_run"
    refine law_word_nc W (by (first | lia | omega)) (by (first | lia | omega)) (by (first | lia | omega)) ?_
    wtm_at "m_run"
    refine ⟨few (by simp), fun t1 ht1 => ?_⟩
    refine gen_alloc ht1 fun G1 l1 f1 => ?_
    wtm_at "m_run"
    refine ⟨few (by simp), fun f hf' => .ret ?_⟩
    refine gen_alloc (p := fun H => Q (.ref f) H) hf' fun Gf lf ff => ?_
    exact q f _ [(.word, _)] Gf (k1.trans ((l1).trans lf).kb) (B1.le ((l1).trans lf)) ff ⟨⟨t1, rfl, (lf) _ _ f1⟩, trivial⟩ (Blk.one _ (by (first | lia | omega)) (by (first | lia | omega)))
  wtm_at "m_run"
  refine ife_eq (fun c4 => ?_) fun c8 => ?_
  · wtm_at "m_run"
    refine law_word_nc W (by (first | lia | omega)) (by (first | lia | omega)) (by (first | lia | omega)) ?_
    wtm_at "m_run"
    refine ⟨few (by simp), fun t1 ht1 => ?_⟩
    refine gen_alloc ht1 fun G1 l1 f1 => ?_
    wtm_at "m_run"
    refine law_word_nc W (by (first | lia | omega)) (by (first | lia | omega)) (by (first | lia | omega)) ?_
    wtm_at "m_run"
    refine ⟨few (by simp), fun t2 ht2 => ?_⟩
    refine gen_alloc ht2 fun G2 l2 f2 => ?_
    wtm_at "m_run"
    refine law_word_nc W (by (first | lia | omega)) (by (first | lia | omega)) (by (first | lia | omega)) ?_
    wtm_at "m_run"
    refine ⟨few (by simp), fun t3 ht3 => ?_⟩
    refine gen_alloc ht3 fun G3 l3 f3 => ?_
    wtm_at "m_run"
    refine ⟨few (by simp), fun f hf' => .ret ?_⟩
    refine gen_alloc (p := fun H => Q (.ref f) H) hf' fun Gf lf ff => ?_
    exact q f _ [(.word, _), (.bare, _), (.bare, _)] Gf (k1.trans ((((l1).trans l2).trans l3).trans lf).kb) (B1.le ((((l1).trans l2).trans l3).trans lf)) ff ⟨⟨t1, rfl, (((l2).trans l3).trans lf) _ _ f1⟩, ⟨⟨t2, rfl, ((l3).trans lf) _ _ f2⟩, ⟨⟨t3, rfl, (lf) _ _ f3⟩, trivial⟩⟩⟩ (Blk.clos _ _ _ (by (first | lia | omega)) (by (first | lia | omega)))
  wtm_at "m_run"
  refine ife_eq (fun c4 => ?_) fun c9 => ?_
  · wtm_at "m_run"
    refine law_word_nc W (by (first | lia | omega)) (by (first | lia | omega)) (by (first | lia | omega)) ?_
    wtm_at "m_run"
    refine ⟨few (by simp), fun t1 ht1 => ?_⟩
    refine gen_alloc ht1 fun G1 l1 f1 => ?_
    wtm_at "m_run"
    refine law_take_nc W (B1.le l1) (by decide) (by decide) fun r H2 k2 B2 hr => ?_
    wtm_at "m_run"
    have f1' := k2 _ _ (bx_ne1 (B1.le l1) f1) (bx_ne2 (B1.le l1) f1) f1
    clear f1
    refine ⟨few (by simp), fun t2 ht2 => ?_⟩
    refine gen_alloc ht2 fun G2 l2 f2 => ?_
    wtm_at "m_run"
    refine ⟨few (by simp), fun f hf' => .ret ?_⟩
    refine gen_alloc (p := fun H => Q (.ref f) H) hf' fun Gf lf ff => ?_
    exact q f _ [(.word, _), (.bare, _)] Gf ((k1.trans l1.kb).trans (k2.trans (l2.trans lf).kb)) (B2.le (l2.trans lf)) ff ⟨⟨t1, rfl, (l2.trans lf) _ _ f1'⟩, ⟨t2, rfl, lf _ _ f2⟩, trivial⟩ (Blk.sets _ _ (by (first | lia | omega)) (by (first | lia | omega)))
  wtm_at "m_run"
  refine ife_eq (fun c4 => ?_) fun c10 => ?_
  · wtm_at "m_run"
    refine law_word_nc W (by (first | lia | omega)) (by (first | lia | omega)) (by (first | lia | omega)) ?_
    wtm_at "m_run"
    refine ⟨few (by simp), fun t1 ht1 => ?_⟩
    refine gen_alloc ht1 fun G1 l1 f1 => ?_
    wtm_at "m_run"
    refine ⟨few (by simp), fun t2 ht2 => ?_⟩
    refine gen_alloc ht2 fun G2 l2 f2 => ?_
    wtm_at "m_run"
    refine ⟨few (by simp), fun f hf' => .ret ?_⟩
    refine gen_alloc (p := fun H => Q (.ref f) H) hf' fun Gf lf ff => ?_
    exact q f _ [(.word, _), (.jump, 22)] Gf (k1.trans (((l1).trans l2).trans lf).kb) (B1.le (((l1).trans l2).trans lf)) ff ⟨⟨t1, rfl, ((l2).trans lf) _ _ f1⟩, ⟨⟨t2, rfl, (lf) _ _ f2⟩, trivial⟩⟩ (Blk.test _ (by (first | lia | omega)) (isT (by (first | lia | omega))))
  wtm_at "m_run"
  refine law_take_nc W B1 (by decide) (by decide) fun r H2 k2 B2 hr => ?_
  wtm_at "m_run"
  refine ⟨few (by simp), fun t1 ht1 => ?_⟩
  refine gen_alloc ht1 fun G1 l1 f1 => ?_
  wtm_at "m_run"
  refine ⟨few (by simp), fun f hf' => .ret ?_⟩
  refine gen_alloc (p := fun H => Q (.ref f) H) hf' fun Gf lf ff => ?_
  exact q f _ [(.jump, _)] Gf ((k1.trans k2).trans ((l1).trans lf).kb) (B2.le ((l1).trans lf)) ff ⟨⟨t1, rfl, (lf) _ _ f1⟩, trivial⟩ (Blk.jump _ (by (first | lia | omega)))
end

inductive Blks : List Item → Prop where
  | nil : Blks []
  | snoc {a c : List Item} (h : Blks a) (b : Blk c) : Blks (a ++ c)
theorem Blk.len {c : List Item} (h : Blk c) : 1 ≤ c.length ∧ c.length ≤ 3 := by cases h <;> simp
noncomputable def flb (its : List Item) : List Bool := its.map fun d => d.1 != .bare
/-- the code that the items make -/
structure CodeOf (its : List Item) (code : List Int) : Prop where
  len : code.length = its.length
  at_ : ∀ i d, its[i]? = some d → (d.1 ≠ .jump → code[i]? = some d.2) ∧ (d.1 = .jump → ∃ goal ∈ keptI (flb its) its.length, code[i]? = some (d.2 + ((goal : Int) - (i : Nat) - 1 + 131071) * 16384))
noncomputable def pre (a its : List Item) : Prop := ∀ (i : Nat) (x : Item), a[i]? = some x → its[i]? = some x
theorem pre.left {a c its : List Item} (h : pre (a ++ c) its) : pre a its := fun i x e => h i x (by rw [List.getElem?_append_left (List.getElem?_eq_some_iff.mp e).1]; exact e)
theorem pre.right {a c its : List Item} (h : pre (a ++ c) its) {j : Nat} {x : Item} (e : c[j]? = some x) : its[a.length + j]? = some x :=
  h _ x (by rw [List.getElem?_append_right (by (first | lia | omega)), Nat.add_sub_cancel_left]; exact e)
section
variable {its : List Item} {code : List Int} (C : CodeOf its code) (hn : its.length ≤ 100)
include C hn
theorem CodeOf.plain {i : Nat} {d : Item} (e : its[i]? = some d) (h : d.1 ≠ .jump) : code[i]? = some d.2 := (C.at_ i d e).1 h
theorem CodeOf.jump {i : Nat} {o : Int} (e : its[i]? = some (.jump, o)) (ho : o = 22 ∨ o = 31 ∨ o = 32) : ∃ w, code[i]? = some w ∧ (0 ≤ w ∧ w < 4294967296) ∧ w % 64 = o ∧ ∃ goal : Nat, goal ∈ keptI (flb its) its.length ∧ (i : Int) + 1 + (w / 16384 - 131071) = (goal : Nat) := by
  obtain ⟨goal, hg, h⟩ := (C.at_ i _ e).2 rfl
  have h1 := keptI_mem hg
  have h2 : i < its.length := (List.getElem?_eq_some_iff.mp e).1
  refine ⟨_, h, ?_, ?_, goal, hg, ?_⟩ <;> dsimp only <;> (first | lia | omega)
omit C hn in
theorem wsz1 {w : Int} (h : w % 64 ≠ 36 ∧ w % 64 ≠ 34) : wsz w = 1 := by unfold wsz; rw [if_neg h.1, if_neg fun x => h.2 x.1]
theorem CodeOf.step {i : Nat} {w : Int} (hS : St code i) (e : code[i]? = some w) (h : w % 64 ≠ 36 ∧ w % 64 ≠ 34) : St code (i + 1) := by
  have := hS.step e; rw [wsz1 h] at this; exact this
/-- the starts -/
theorem CodeOf.sts {a : List Item} (hB : Blks a) : pre a its → St code a.length ∧ ∀ i, i < a.length → (flb a)[i]? = some true → St code i := by
  induction hB with
  | nil => exact fun _ => ⟨St.zero _, fun i h => absurd h (Nat.not_lt_zero _)⟩
  | @snoc a c h b ih =>
    intro hp
    obtain ⟨h1, h2⟩ := ih hp.left
    have low : ∀ i, i < a.length → (flb (a ++ c))[i]? = some true → St code i := fun i hi e => h2 i hi (by
      unfold flb at e ⊢
      rw [List.map_append, List.getElem?_append_left (by simpa using hi)] at e; exact e)
    have right : ∀ {j : Nat} {x : Item}, c[j]? = some x → its[a.length + j]? = some x := fun e => hp.right e
    have r0 : ∀ {x : Item}, c[0]? = some x → its[a.length]? = some x := fun e => hp.right e
    have kind : ∀ j, (flb (a ++ c))[a.length + j]? = (flb c)[j]? := fun j => by
      unfold flb
      rw [List.map_append, List.getElem?_append_right (by simp), List.length_map, Nat.add_sub_cancel_left]
    have key : St code (a.length + c.length) ∧ ∀ j, j < c.length → (flb c)[j]? = some true → St code (a.length + j) := by
      cases b with
      | one w hw ho =>
        have e := C.plain hn (r0 rfl) (by intro h; cases h)
        refine ⟨C.step hn h1 e (by dsimp only; (first | lia | omega)), fun j hj _ => ?_⟩
        have : j = 0 := by simp at hj; exact hj
        subst this; exact h1
      | load w v hw hv ho ho' =>
        have e := C.plain hn (r0 rfl) (by intro h; cases h)
        have s1 := C.step hn h1 e (by dsimp only; (first | lia | omega))
        have e1 := C.plain hn (right (j := 1) rfl) (by intro h; cases h)
        refine ⟨C.step hn s1 e1 (by dsimp only; (first | lia | omega)), fun j hj _ => ?_⟩
        have : j = 0 ∨ j = 1 := by simp at hj; (first | lia | omega)
        rcases this with rfl | rfl
        · exact h1
        · exact s1
      | jump o ho =>
        obtain ⟨w, e, hb, hm, _⟩ := C.jump hn (r0 rfl) ho
        refine ⟨C.step hn h1 e (by (first | lia | omega)), fun j hj _ => ?_⟩
        have : j = 0 := by simp at hj; exact hj
        subst this; exact h1
      | test w hw ho =>
        have e := C.plain hn (r0 rfl) (by intro h; cases h)
        have ho' : w % 64 = 23 ∨ w % 64 = 24 ∨ w % 64 = 26 ∨ w % 64 = 27 ∨ w % 64 = 33 := by unfold isTest at ho; simpa using ho
        have s1 := C.step hn h1 e (by dsimp only; (first | lia | omega))
        obtain ⟨v, e1, hb, hm, _⟩ := C.jump hn (right (j := 1) rfl) (.inl rfl)
        refine ⟨C.step hn s1 e1 (by (first | lia | omega)), fun j hj _ => ?_⟩
        have : j = 0 ∨ j = 1 := by simp at hj; (first | lia | omega)
        rcases this with rfl | rfl
        · exact h1
        · exact s1
      | clos w b c hw ho =>
        have e := C.plain hn (r0 rfl) (by intro h; cases h)
        have s1 := h1.step e
        rw [show wsz w = 3 by unfold wsz; rw [if_pos ho.1]] at s1
        refine ⟨s1, fun j hj ej => ?_⟩
        have : j = 0 ∨ j = 1 ∨ j = 2 := by simp at hj; (first | lia | omega)
        rcases this with rfl | rfl | rfl
        · exact h1
        · simp [flb] at ej
        · simp [flb] at ej
      | sets w b hw ho =>
        have e := C.plain hn (r0 rfl) (by intro h; cases h)
        have s1 := h1.step e
        rw [show wsz w = 2 by unfold wsz; rw [if_neg (by (first | lia | omega)), if_pos ho]] at s1
        refine ⟨s1, fun j hj ej => ?_⟩
        have : j = 0 ∨ j = 1 := by simp at hj; (first | lia | omega)
        rcases this with rfl | rfl
        · exact h1
        · simp [flb] at ej
    refine ⟨by rw [List.length_append]; exact key.1, fun i hi e => ?_⟩
    by_cases hlt : i < a.length
    · exact low i hlt e
    · obtain ⟨j, rfl⟩ : ∃ j, i = a.length + j := ⟨i - a.length, by (first | lia | omega)⟩
      rw [kind] at e
      exact key.2 j (by rw [List.length_append] at hi; (first | lia | omega)) e
end

theorem isTest_iff {o : Int} : isTest o = true ↔ (o = 23 ∨ o = 24 ∨ o = 26 ∨ o = 27 ∨ o = 33) := ⟨fun h => by unfold isTest at h; simpa using h, isT⟩
theorem nexts_ret {s w : Int} (h : w % 64 = 30) : nexts s w = [] := by unfold nexts; rw [if_pos h]
theorem nexts_jmp {s w : Int} (h : w % 64 = 22 ∨ w % 64 = 32) : nexts s w = [s + 1 + (w / 16384 - 131071)] := by unfold nexts; rw [if_neg (by (first | lia | omega)), if_pos h]
theorem nexts_loop {s w : Int} (h : w % 64 = 31) : nexts s w = [s + 1 + (w / 16384 - 131071), s + 1] := by unfold nexts; rw [if_neg (by (first | lia | omega)), if_neg (by (first | lia | omega)), if_pos h]
theorem nexts_test {s w : Int} (h : isTest (w % 64) = true) : nexts s w = [s + 1, s + 2] := by
  have h' := isTest_iff.mp h
  unfold nexts; rw [if_neg (by (first | lia | omega)), if_neg (by (first | lia | omega)), if_neg (by (first | lia | omega)), if_pos h]
theorem nexts_load {s w : Int} (h : w % 64 = 2 ∧ w / 16384 % 512 ≠ 0) : nexts s w = [s + 2] := by
  have h' : ¬ isTest (w % 64) = true := fun x => by have := isTest_iff.mp x; (first | lia | omega)
  unfold nexts; rw [if_neg (by (first | lia | omega)), if_neg (by (first | lia | omega)), if_neg (by (first | lia | omega)), if_neg h', if_pos h]
theorem nexts_else {s w : Int} (h : w % 64 ≠ 30 ∧ w % 64 ≠ 22 ∧ w % 64 ≠ 32 ∧ w % 64 ≠ 31) (ht : ¬ isTest (w % 64) = true) (hl : ¬ (w % 64 = 2 ∧ w / 16384 % 512 ≠ 0)) : nexts s w = [s + (wsz w : Nat)] := by
  unfold nexts; rw [if_neg (by (first | lia | omega)), if_neg (by (first | lia | omega)), if_neg (by (first | lia | omega)), if_neg ht, if_neg hl]
/-- an instruction's word is in order -/
noncomputable def WdOk (code : List Int) (m N : Nat) (s : Nat) (w : Int) : Prop :=
  (0 ≤ w ∧ w < 4294967296) ∧ w % 64 ≠ 25 ∧ (w % 64 = 36 → w / 16384 % 262144 = 0) ∧ s + wsz w ≤ m ∧ ∀ t ∈ nexts s w, ∃ u : Nat, t = (u : Nat) ∧ St code u ∧ u < N
theorem one_nx {code : List Int} {N : Nat} {s : Int} {u : Nat} {l : List Int} (e : l = [s]) (hu : s = (u : Nat)) (hS : St code u) (hN : u < N) : ∀ t ∈ l, ∃ u : Nat, t = (u : Nat) ∧ St code u ∧ u < N := by
  subst e; intro t ht; simp at ht; subst ht; exact ⟨u, hu, hS, hN⟩
theorem two_nx {code : List Int} {N : Nat} {s s' : Int} {u u' : Nat} {l : List Int} (e : l = [s, s']) (hu : s = (u : Nat)) (hS : St code u) (hN : u < N) (hu' : s' = (u' : Nat)) (hS' : St code u') (hN' : u' < N) : ∀ t ∈ l, ∃ u : Nat, t = (u : Nat) ∧ St code u ∧ u < N := by
  subst e; intro t ht; simp at ht
  rcases ht with rfl | rfl
  · exact ⟨u, hu, hS, hN⟩
  · exact ⟨u', hu', hS', hN'⟩
section
variable {its : List Item} {code : List Int} (C : CodeOf its code) (hn : its.length ≤ 100)
include C hn
theorem CodeOf.inf (hG : ∀ g ∈ keptI (flb its) its.length, St code g ∧ g < its.length) {a : List Item} (hB : Blks a) : pre a its → a.length < its.length → ∀ s w, s < a.length → St code s → code[s]? = some w → WdOk code a.length its.length s w := by
  induction hB with
  | nil => exact fun _ _ s w h => absurd h (Nat.not_lt_zero _)
  | @snoc a c h b ih =>
    intro hp hN s w hs hS e
    rw [List.length_append] at hN hs ⊢
    have hS1 := (C.sts hn h hp.left).1
    by_cases hlt : s < a.length
    · obtain ⟨h1, h2, h3, h4, h5⟩ := ih hp.left (by (first | lia | omega)) s w hlt hS e
      exact ⟨h1, h2, h3, by (first | lia | omega), h5⟩
    have right : ∀ {j : Nat} {x : Item}, c[j]? = some x → its[a.length + j]? = some x := fun e => hp.right e
    have r0 : ∀ {x : Item}, c[0]? = some x → its[a.length]? = some x := fun e => hp.right e
    -- the place within the block
    have first : ∀ {v : Int}, code[a.length]? = some v → s = a.length ∨ a.length + wsz v ≤ s := fun {v} ev => by
      by_cases h : s = a.length
      · exact .inl h
      · obtain ⟨v', e1, e2⟩ := St.order hS1 hS (by (first | lia | omega))
        rw [ev] at e1; cases e1; exact .inr e2
    have jmp : ∀ {i : Nat} {o : Int}, (o = 22 ∨ o = 31 ∨ o = 32) → its[i]? = some (.jump, o) → St code i → i + 1 ≤ a.length + c.length → (o = 31 → St code (i + 1)) → ∀ v, code[i]? = some v → WdOk code (a.length + c.length) its.length i v := fun {i o} ho ei hSi hi hl v ev => by
      obtain ⟨v', e', hb, hm, goal, hg, hd⟩ := C.jump hn ei ho
      rw [ev] at e'; cases e'
      obtain ⟨g1, g2⟩ := hG goal hg
      refine ⟨hb, by (first | lia | omega), by (first | lia | omega), by rw [wsz1 (by (first | lia | omega))]; (first | lia | omega), ?_⟩
      rcases ho with rfl | rfl | rfl
      · exact one_nx (nexts_jmp (.inl hm)) hd g1 g2
      · exact two_nx (nexts_loop hm) hd g1 g2 (u' := i + 1) (by (first | lia | omega)) (hl rfl) (by (first | lia | omega))
      · exact one_nx (nexts_jmp (.inr hm)) hd g1 g2
    cases b with
    | one w' hw ho =>
      have e0 := C.plain hn (r0 rfl) (by intro h; cases h)
      have hz : wsz w' = 1 := wsz1 (by (first | lia | omega))
      have s1 := hS1.step e0
      have hs : s < a.length + 1 := hs
      have hN : a.length + 1 < its.length := hN
      dsimp only at s1
      rw [hz] at s1
      obtain rfl : s = a.length := by (first | lia | omega)
      rw [e] at e0; cases e0
      refine ⟨hw, by (first | lia | omega), by (first | lia | omega), by rw [hz]; exact Nat.le_refl _, ?_⟩
      by_cases h30 : w' % 64 = 30
      · rw [nexts_ret h30]; intro t ht; cases ht
      · exact one_nx (nexts_else (by (first | lia | omega)) (fun x => by have := isTest_iff.mp x; (first | lia | omega)) (by (first | lia | omega))) (u := a.length + 1) (by rw [hz]; (first | lia | omega)) s1 (by (first | lia | omega))
    | load w' v hw hv ho ho' =>
      have e0 := C.plain hn (r0 rfl) (by intro h; cases h)
      have e1 := C.plain hn (right (j := 1) rfl) (by intro h; cases h)
      have hz : wsz w' = 1 := wsz1 (by (first | lia | omega))
      have hzv : wsz v = 1 := wsz1 (by (first | lia | omega))
      have s1 := hS1.step e0
      have hs : s < a.length + 2 := hs
      have hN : a.length + 2 < its.length := hN
      dsimp only at s1
      rw [hz] at s1
      have s2 := s1.step e1
      dsimp only at s2
      rw [hzv] at s2
      have : s = a.length ∨ s = a.length + 1 := by (first | lia | omega)
      rcases this with rfl | rfl
      · rw [e] at e0; cases e0
        refine ⟨hw, by dsimp only; (first | lia | omega), by dsimp only; (first | lia | omega), ?_, one_nx (nexts_load ho) (u := a.length + 1 + 1) (by (first | lia | omega)) s2 (by (first | lia | omega))⟩
        dsimp only; rw [hz]; simp
      · rw [e] at e1; cases e1
        refine ⟨hv, by dsimp only; (first | lia | omega), by dsimp only; (first | lia | omega), ?_, one_nx (nexts_else (by dsimp only; (first | lia | omega)) (fun x => by have := isTest_iff.mp x; dsimp only at this; (first | lia | omega)) (by dsimp only; (first | lia | omega))) (u := a.length + 1 + 1) (by dsimp only; rw [hzv]; (first | lia | omega)) s2 (by (first | lia | omega))⟩
        dsimp only; rw [hzv]; simp
    | jump o ho =>
      have hs : s < a.length + 1 := hs
      have hN : a.length + 1 < its.length := hN
      obtain rfl : s = a.length := by (first | lia | omega)
      obtain ⟨v', e', hb, hm, _⟩ := C.jump hn (r0 rfl) ho
      exact jmp ho (r0 rfl) hS1 (by simp) (fun _ => C.step hn hS1 e' (by (first | lia | omega))) w e
    | test w' hw ho =>
      have e0 := C.plain hn (r0 rfl) (by intro h; cases h)
      have ho' := isTest_iff.mp ho
      have hz : wsz w' = 1 := wsz1 (by (first | lia | omega))
      have s1 := hS1.step e0
      have hs : s < a.length + 2 := hs
      have hN : a.length + 2 < its.length := hN
      dsimp only at s1
      rw [hz] at s1
      obtain ⟨v', e', hb, hm, _⟩ := C.jump hn (right (j := 1) rfl) (.inl rfl)
      have s2 := C.step hn s1 e' (by (first | lia | omega))
      have : s = a.length ∨ s = a.length + 1 := by (first | lia | omega)
      rcases this with rfl | rfl
      · rw [e] at e0; cases e0
        refine ⟨hw, by dsimp only; (first | lia | omega), by dsimp only; (first | lia | omega), ?_, two_nx (nexts_test ho) (u := a.length + 1) (by (first | lia | omega)) s1 (by (first | lia | omega)) (u' := a.length + 1 + 1) (by (first | lia | omega)) s2 (by (first | lia | omega))⟩
        dsimp only; rw [hz]; simp
      · exact jmp (.inl rfl) (right (j := 1) rfl) s1 (by simp) (fun h => by cases h) w e
    | clos w' b' c' hw ho =>
      have e0 := C.plain hn (r0 rfl) (by intro h; cases h)
      have hz : wsz w' = 3 := by unfold wsz; rw [if_pos ho.1]
      have s1 := hS1.step e0
      have hs : s < a.length + 3 := hs
      have hN : a.length + 3 < its.length := hN
      dsimp only at s1
      rw [hz] at s1
      have := first e0
      dsimp only at this
      rw [hz] at this
      obtain rfl : s = a.length := by (first | lia | omega)
      rw [e] at e0; cases e0
      refine ⟨hw, by dsimp only; (first | lia | omega), fun _ => ho.2, ?_, one_nx (nexts_else (by dsimp only; (first | lia | omega)) (fun x => by have := isTest_iff.mp x; dsimp only at this; (first | lia | omega)) (by dsimp only; (first | lia | omega))) (u := a.length + 3) (by dsimp only; rw [hz]; (first | lia | omega)) s1 (by (first | lia | omega))⟩
      dsimp only; rw [hz]; simp
    | sets w' b' hw ho =>
      have e0 := C.plain hn (r0 rfl) (by intro h; cases h)
      have hz : wsz w' = 2 := by unfold wsz; rw [if_neg (by (first | lia | omega)), if_pos ho]
      have s1 := hS1.step e0
      have hs : s < a.length + 2 := hs
      have hN : a.length + 2 < its.length := hN
      dsimp only at s1
      rw [hz] at s1
      have := first e0
      dsimp only at this
      rw [hz] at this
      obtain rfl : s = a.length := by (first | lia | omega)
      rw [e] at e0; cases e0
      refine ⟨hw, by dsimp only; (first | lia | omega), by dsimp only; (first | lia | omega), ?_, one_nx (nexts_else (by dsimp only; (first | lia | omega)) (fun x => by have := isTest_iff.mp x; dsimp only at this; (first | lia | omega)) (by dsimp only; (first | lia | omega))) (u := a.length + 2) (by dsimp only; rw [hz]; (first | lia | omega)) s1 (by (first | lia | omega))⟩
      dsimp only; rw [hz]; simp
end
theorem good_of {a : List Item} {code : List Int} (hB : Blks a) (ha : a.length ≤ 18) (C : CodeOf (a ++ [(.word, 8388638)]) code) : Good code := by
  have hBf : Blks (a ++ [(.word, 8388638)]) := hB.snoc (.one 8388638 (by decide) (by decide))
  have hL : (a ++ [((.word, 8388638) : Item)]).length = a.length + 1 := by simp
  have hn : (a ++ [((.word, 8388638) : Item)]).length ≤ 100 := by (first | lia | omega)
  have hl : code.length = a.length + 1 := C.len.trans hL
  have refl : pre (a ++ [(.word, 8388638)]) (a ++ [(.word, 8388638)]) := fun _ _ e => e
  obtain ⟨hE, hS⟩ := C.sts hn hBf refl
  have hA := (C.sts hn hB refl.left).1
  have hG : ∀ g ∈ keptI (flb (a ++ [(.word, 8388638)])) (a ++ [((.word, 8388638) : Item)]).length, St code g ∧ g < (a ++ [((.word, 8388638) : Item)]).length := fun g hg => by
    have h1 := keptI_mem hg
    refine ⟨hS g h1 ?_, h1⟩
    unfold keptI at hg
    exact beq_iff_eq.mp (List.mem_filter.mp hg).2
  have hlast : code[a.length]? = some 8388638 := C.plain hn (i := a.length) (d := (.word, 8388638)) (by simp) (by intro h; cases h)
  have inf : ∀ s w, St code s → code[s]? = some w → WdOk code (a.length + 1) (a.length + 1) s w := fun s w hs e => by
    have hlt : s < a.length + 1 := by rw [← hl]; exact (List.getElem?_eq_some_iff.mp e).1
    by_cases h : s < a.length
    · obtain ⟨h1, h2, h3, h4, h5⟩ := C.inf hn hG hB refl.left (by (first | lia | omega)) s w h hs e
      rw [hL] at h5
      exact ⟨h1, h2, h3, by (first | lia | omega), h5⟩
    · obtain rfl : s = a.length := by (first | lia | omega)
      rw [hlast] at e; cases e
      exact ⟨by decide, by decide, by decide, Nat.le_refl _, by rw [nexts_ret (by decide)]; intro t ht; cases ht⟩
  refine ⟨by (first | lia | omega), fun s w hs e => ?_, fun s w hs e => ?_, ?_, ?_⟩
  · obtain ⟨h1, h2, h3, h4, h5⟩ := inf s w hs e
    exact ⟨h1, h2, h3, by (first | lia | omega)⟩
  · obtain ⟨h1, h2, h3, h4, h5⟩ := inf s w hs e
    rw [hl]; exact h5
  · rw [hl]; exact hlast
  · rw [hl]; exact hA

theorem pl_run {fl : List Bool} {s : Nat} : ∀ m : Nat, (∀ j, j < m → fl[s + j]? = some true) → pl fl (s + m) = pl fl s + m
  | 0, _ => rfl
  | m + 1, h => by
    have e := pl_succ (h m (Nat.lt_succ_self m))
    have ih := pl_run m fun j hj => h j (Nat.lt_succ_of_lt hj)
    rw [show s + (m + 1) = s + m + 1 by (first | lia | omega), e, ih]; simp; (first | lia | omega)
theorem pl_mono {fl : List Bool} {i j : Nat} (h : i ≤ j) : pl fl i ≤ pl fl j := by
  induction h with
  | refl => exact Nat.le_refl _
  | @step m _ ih =>
    refine Nat.le_trans ih ?_
    cases e : fl[m]? with
    | some b => rw [pl_succ e]; (first | lia | omega)
    | none =>
      have hm : fl.length ≤ m := List.getElem?_eq_none_iff.mp e
      unfold pl
      rw [List.take_of_length_le hm, List.take_of_length_le (by (first | lia | omega))]
      exact Nat.le_refl _
theorem pl_lt {fl : List Bool} {i j : Nat} (h : i < j) (hi : fl[i]? = some true) : pl fl i < pl fl j := by
  have e := pl_succ hi
  have := pl_mono (fl := fl) (show i + 1 ≤ j from h)
  rw [e] at this; simp at this; (first | lia | omega)
theorem pl_inj {fl : List Bool} {i j : Nat} (hi : fl[i]? = some true) (hj : fl[j]? = some true) (h : pl fl i = pl fl j) : i = j := by
  rcases Nat.lt_trichotomy i j with a | a | a
  · have := pl_lt a hi; (first | lia | omega)
  · exact a
  · have := pl_lt a hj; (first | lia | omega)
theorem keptI_get {fl : List Bool} {i : Nat} (hi : fl[i]? = some true) : ∀ {m : Nat}, i < m → m ≤ fl.length → (keptI fl m)[pl fl i]? = some i
  | 0, h, _ => absurd h (Nat.not_lt_zero _)
  | m + 1, h, hm => by
    rw [keptI_succ]
    by_cases e : i = m
    · subst e
      rw [if_pos hi, List.getElem?_append_right (by rw [keptI_length (by (first | lia | omega))]; exact Nat.le_refl _), keptI_length (by (first | lia | omega)), Nat.sub_self]; rfl
    · have hlt : i < m := by (first | lia | omega)
      rw [List.getElem?_append_left (by rw [keptI_length (by (first | lia | omega))]; exact pl_lt hlt hi)]
      exact keptI_get hi hlt (by (first | lia | omega))
theorem keptI_true {fl : List Bool} {m i : Nat} (h : i ∈ keptI fl m) : fl[i]? = some true := by
  unfold keptI at h; exact beq_iff_eq.mp (List.mem_filter.mp h).2
theorem keptI_inv {fl : List Bool} {m j i : Nat} (hm : m ≤ fl.length) (h : (keptI fl m)[j]? = some i) : fl[i]? = some true ∧ i < m ∧ pl fl i = j := by
  have hmem := List.mem_of_getElem? h
  have h1 := keptI_true hmem
  have h2 := keptI_mem hmem
  refine ⟨h1, h2, ?_⟩
  have h3 := keptI_get h1 h2 hm
  have hj : j < (keptI fl m).length := (List.getElem?_eq_some_iff.mp h).1
  have hp : pl fl i < (keptI fl m).length := (List.getElem?_eq_some_iff.mp h3).1
  have nd : (keptI fl m).Nodup := by unfold keptI; exact (List.nodup_range).filter _
  exact (List.getElem?_inj hp nd).mp (by rw [h3, h])

/-- what the trace tells of a word -/
noncomputable def told (w : Int) : List Int :=
  if ([22, 31, 32] : List Int).contains (w % 64) = true then [w % 64, w / 64 % 256] else if w % 64 = 2 then [w % 64, w / 64 % 256, w / 8388608 % 512] else [w % 64, w / 64 % 256, w / 8388608 % 512, w / 16384 % 512]
theorem isJ {o : Int} : ([22, 31, 32] : List Int).contains o = true ↔ (o = 22 ∨ o = 31 ∨ o = 32) := by simp
section
variable {code : List Int} (g : Good code)
include g
theorem Good.kept {s : Nat} (h : Reach code s) {j : Nat} (hj : j < wsz (code.getD s 0)) : (fin code)[s + j]? = some true := by
  obtain ⟨h1, h2⟩ := g.reach h
  have h3 := (g.wd _ _ h1 (Good.at h2)).2.2.2
  exact fin_cov (by (first | lia | omega)) ⟨s, _, h, Good.at h2, by (first | lia | omega), by (first | lia | omega)⟩
theorem Good.kept0 {s : Nat} (h : Reach code s) : (fin code)[s]? = some true := g.kept h (j := 0) (wsz_pos _).1
theorem Good.nxt {s : Nat} (h : Reach code s) {t : Int} (ht : t ∈ nexts s (code.getD s 0)) : ∃ u : Nat, t = (u : Nat) ∧ Reach code u := by
  obtain ⟨h1, h2⟩ := g.reach h
  obtain ⟨u, e, _⟩ := g.nx _ _ h1 (Good.at h2) t ht
  subst e
  exact ⟨u, rfl, .step h (Good.at h2) ht⟩
theorem Good.cs_at {i : Nat} (h : i < code.length) (fl : List Bool) : (cs code fl).getD i 0 = sk code fl i := by
  rw [List.getD_eq_getElem?_getD, cs_get h]; rfl
theorem Good.bare {s : Nat} (h : Reach code s) {j : Nat} (hj : j < wsz (code.getD s 0)) (h0 : 0 < j) : nw (cs code (fin code)) (fin code) (s + j) = code.getD (s + j) 0 := by
  obtain ⟨h1, h2⟩ := g.reach h
  have h3 := (g.wd _ _ h1 (Good.at h2)).2.2.2
  have hn : ¬ St code (s + j) := fun hS => by
    obtain ⟨w, e, hle⟩ := St.order h1 hS (by (first | lia | omega))
    rw [Good.at h2] at e; cases e; (first | lia | omega)
  unfold nw
  rw [if_neg (fun x => hn (St_cs.mp x.1)), g.cs_at (by (first | lia | omega))]
  unfold sk
  rw [if_neg (fun x => hn x.1)]
/-- a reached instruction, and what stands for it -/
theorem Good.new {s : Nat} (h : Reach code s) : let w := code.getD s 0; let w' := nw (cs code (fin code)) (fin code) s
    told w' = told w ∧ wsz w' = wsz w ∧ (0 ≤ w' ∧ w' < 4294967296) ∧ w' % 64 = w % 64 ∧ nexts (pl (fin code) s : Nat) w' = (nexts s w).map fun t => ((pl (fin code) t.toNat : Nat) : Int) := by
  intro w w'
  obtain ⟨h1, h2⟩ := g.reach h
  obtain ⟨hb, _, _, h3⟩ := g.wd _ _ h1 (Good.at h2)
  have nxR : ∀ t ∈ nexts s w, ∃ u : Nat, t = (u : Nat) ∧ Reach code u := fun t ht => g.nxt h ht
  have k0 := g.kept0 h
  have p1 : pl (fin code) (s + 1) = pl (fin code) s + 1 := pl_run 1 fun j hj => by
    obtain rfl : j = 0 := by (first | lia | omega)
    exact k0
  have ew' : w' = nw (cs code (fin code)) (fin code) s := rfl
  unfold nw at ew'
  rw [g.cs_at h2] at ew'
  rcases sk_or code (fin code) s with hsk | ⟨a1, a2, a3, a4⟩
  · rw [hsk] at ew'
    have ew : code.getD s 0 = w := rfl
    rw [ew] at ew' hb h3
    by_cases hj : ([22, 31, 32] : List Int).contains (w % 64) = true
    · rw [if_pos ⟨St_cs.mpr h1, hj⟩] at ew'
      have hj' := isJ.mp hj
      -- the target
      have hm : ((s : Int) + 1 + (w / 16384 - 131071)) ∈ nexts s w := by
        rcases hj' with x | x | x
        · rw [nexts_jmp (.inl x)]; simp
        · rw [nexts_loop x]; simp
        · rw [nexts_jmp (.inr x)]; simp
      obtain ⟨u, hu, hr⟩ := nxR _ hm
      have q1 := pl_le' (fin code) u
      have q2 := pl_le' (fin code) s
      rw [fin_length] at q1 q2
      have q3 := g.len
      rw [hu, Int.toNat_natCast] at ew'
      have m1 : w' % 64 = w % 64 := by (first | lia | omega)
      have m2 : w' / 64 % 256 = w / 64 % 256 := by (first | lia | omega)
      have m3 : w' / 16384 = (pl (fin code) u : Nat) - (pl (fin code) s : Nat) - 1 + 131071 := by (first | lia | omega)
      refine ⟨?_, ?_, by (first | lia | omega), m1, ?_⟩
      · unfold told; rw [m1, if_pos hj, if_pos hj, m2]
      · rw [wsz1 (by (first | lia | omega)), wsz1 (by (first | lia | omega))]
      · rcases hj' with x | x | x
        · rw [nexts_jmp (.inl x), nexts_jmp (.inl (m1.trans x)), hu, m3]; simp; (first | lia | omega)
        · rw [nexts_loop x, nexts_loop (m1.trans x), hu, m3]
          have : ((s : Int) + 1).toNat = s + 1 := by (first | lia | omega)
          simp [this, p1]; (first | lia | omega)
        · rw [nexts_jmp (.inr x), nexts_jmp (.inr (m1.trans x)), hu, m3]; simp; (first | lia | omega)
    · rw [if_neg (fun x => hj x.2)] at ew'
      rw [ew']
      refine ⟨rfl, rfl, hb, rfl, ?_⟩
      have hj' : ¬ (w % 64 = 22 ∨ w % 64 = 31 ∨ w % 64 = 32) := fun x => hj (isJ.mpr x)
      by_cases c1 : w % 64 = 30
      · rw [nexts_ret c1, nexts_ret c1]; rfl
      by_cases c2 : isTest (w % 64) = true
      · have hm : ((s : Int) + 1) ∈ nexts s w := by rw [nexts_test c2]; simp
        obtain ⟨u, hu, hr⟩ := nxR _ hm
        obtain rfl : u = s + 1 := by (first | lia | omega)
        have p2 : pl (fin code) (s + 1 + 1) = pl (fin code) (s + 1) + 1 := pl_run 1 fun j hj => by
          obtain rfl : j = 0 := by (first | lia | omega)
          exact g.kept0 hr
        rw [nexts_test c2, nexts_test c2]
        have e1 : ((s : Int) + 1).toNat = s + 1 := by (first | lia | omega)
        have e2 : ((s : Int) + 2).toNat = s + 1 + 1 := by (first | lia | omega)
        simp [e1, e2, p1, p2]; (first | lia | omega)
      by_cases c3 : w % 64 = 2 ∧ w / 16384 % 512 ≠ 0
      · -- the skipped word is kept
        have e2 : ((s : Int) + 2).toNat = s + 1 + 1 := by (first | lia | omega)
        have hk : (fin code)[s + 1]? = some true := by
          have hm : ((s : Int) + 2) ∈ nexts s w := by rw [nexts_load c3]; simp
          obtain ⟨u, hu, hr⟩ := nxR _ hm
          have := (g.reach hr).2
          cases x : (fin code)[s + 1]? with
          | none => have := List.getElem?_eq_none_iff.mp x; rw [fin_length] at this; (first | lia | omega)
          | some b =>
            cases b with
            | true => rfl
            | false =>
              exfalso
              have : sk code (fin code) s = w - w / 16384 % 512 * 16384 := by
                unfold sk; rw [if_pos ⟨h1, c3.1, c3.2, x⟩]
              rw [hsk] at this
              have e : code.getD s 0 = w := rfl
              (first | lia | omega)
        have p2 : pl (fin code) (s + 1 + 1) = pl (fin code) (s + 1) + 1 := pl_run 1 fun j hj => by
          obtain rfl : j = 0 := by (first | lia | omega)
          exact hk
        rw [nexts_load c3, nexts_load c3]
        simp [e2, p1, p2]; (first | lia | omega)
      · have c4 : w % 64 ≠ 30 ∧ w % 64 ≠ 22 ∧ w % 64 ≠ 32 ∧ w % 64 ≠ 31 := by (first | lia | omega)
        rw [nexts_else c4 c2 c3, nexts_else c4 c2 c3]
        have pw : pl (fin code) (s + wsz w) = pl (fin code) s + wsz w := pl_run _ fun j hj => g.kept h hj
        have e1 : ((s : Int) + (wsz w : Nat)).toNat = s + wsz w := by (first | lia | omega)
        simp [e1, pw]
  · -- the skipping load becomes a plain one
    have ew : code.getD s 0 = w := rfl
    rw [ew] at a1 a2 a4 hb h3
    rw [a4] at ew'
    rw [if_neg (fun x => by have := isJ.mp x.2; (first | lia | omega))] at ew'
    have m1 : w' % 64 = w % 64 := by (first | lia | omega)
    have m2 : w' / 64 % 256 = w / 64 % 256 := by (first | lia | omega)
    have m4 : w' / 8388608 % 512 = w / 8388608 % 512 := by (first | lia | omega)
    have m5 : w' / 16384 % 512 = 0 := by (first | lia | omega)
    have hj : ¬ ([22, 31, 32] : List Int).contains (w % 64) = true := fun x => by have := isJ.mp x; (first | lia | omega)
    refine ⟨?_, ?_, by (first | lia | omega), m1, ?_⟩
    · unfold told; rw [m1, if_neg hj, if_neg hj, if_pos a1, if_pos a1, m2, m4]
    · rw [wsz1 (by (first | lia | omega)), wsz1 (by (first | lia | omega))]
    · have p2 : pl (fin code) (s + 1 + 1) = pl (fin code) (s + 1) := by rw [pl_succ a3]; rfl
      have e2 : ((s : Int) + 2).toNat = s + 1 + 1 := by (first | lia | omega)
      rw [nexts_load ⟨a1, a2⟩, nexts_else (by (first | lia | omega)) (fun x => by have := isTest_iff.mp x; (first | lia | omega)) (by (first | lia | omega)), wsz1 (by (first | lia | omega))]
      simp [e2, p1, p2]
end

/-- what the trace shows -/
noncomputable def trc (code lines : List Int) : List Nat → Nat → List (List Int × Int × List Int)
  | [], _ => []
  | b :: r, s => (told (code.getD s 0), lines.getD s 0, (code.drop (s + 1)).take (wsz (code.getD s 0) - 1)) ::
      (if nexts s (code.getD s 0) = [] then [] else trc code lines r ((nexts s (code.getD s 0)).getD (b % (nexts s (code.getD s 0)).length) 0).toNat)
section
variable {code : List Int} (g : Good code)
include g
theorem Good.newlen : (newcode code).length = pl (fin code) code.length := by
  unfold newcode; rw [List.length_map, keptI_length (by rw [fin_length]; exact Nat.le_refl _)]
theorem Good.newget {i : Nat} (hi : (fin code)[i]? = some true) : (newcode code)[pl (fin code) i]? = some (nw (cs code (fin code)) (fin code) i) := by
  unfold newcode
  rw [List.getElem?_map, keptI_get hi (fin_inv hi).1 (by rw [fin_length]; exact Nat.le_refl _)]; rfl
theorem Good.newgetD {i : Nat} (hi : (fin code)[i]? = some true) : (newcode code).getD (pl (fin code) i) 0 = nw (cs code (fin code)) (fin code) i := by
  rw [List.getD_eq_getElem?_getD, g.newget hi]; rfl
theorem Good.newReach {s : Nat} (h : Reach code s) : Reach (newcode code) (pl (fin code) s) := by
  induction h with
  | zero => exact .zero
  | @step s t w h e m ih =>
    have hw : code.getD s 0 = w := by rw [List.getD_eq_getElem?_getD, e]; rfl
    have hn := (g.new h).2.2.2.2
    refine .step ih (g.newget (g.kept0 h)) ?_
    rw [hn, hw]
    exact List.mem_map.mpr ⟨_, m, by rw [Int.toNat_natCast]⟩
theorem Good.reachNew {t : Nat} (h : Reach (newcode code) t) : ∃ s, Reach code s ∧ pl (fin code) s = t := by
  induction h with
  | zero => exact ⟨0, .zero, rfl⟩
  | @step a b w h e m ih =>
    obtain ⟨s, hs, rfl⟩ := ih
    rw [g.newget (g.kept0 hs)] at e
    have e := Option.some.inj e
    subst e
    have hn := (g.new hs).2.2.2.2
    rw [hn] at m
    obtain ⟨t, ht, hb⟩ := List.mem_map.mp m
    obtain ⟨u, rfl, hu⟩ := g.nxt hs ht
    refine ⟨u, hu, ?_⟩
    rw [Int.toNat_natCast] at hb; exact Int.ofNat_inj.mp hb
theorem Good.plw {s : Nat} (h : Reach code s) : pl (fin code) (s + wsz (code.getD s 0)) = pl (fin code) s + wsz (code.getD s 0) := pl_run _ fun j hj => g.kept h hj
theorem Good.newwf : WF (newcode code) := by
  refine ⟨fun t h => ?_, fun t t' w h h' e => ?_⟩
  · obtain ⟨s, hs, rfl⟩ := g.reachNew h
    obtain ⟨h1, h2⟩ := g.reach hs
    obtain ⟨_, hw, _, _, hn⟩ := g.new hs
    refine ⟨_, g.newget (g.kept0 hs), ?_, ?_⟩
    · rw [hw, g.newlen, ← g.plw hs]
      exact pl_mono (g.wd _ _ h1 (Good.at h2)).2.2.2
    · rw [hn]
      intro t ht
      obtain ⟨u, _, rfl⟩ := List.mem_map.mp ht
      exact Int.natCast_nonneg _
  · obtain ⟨s, hs, rfl⟩ := g.reachNew h
    obtain ⟨s', hs', rfl⟩ := g.reachNew h'
    rw [g.newget (g.kept0 hs)] at e
    have e := Option.some.inj e
    subst e
    obtain ⟨_, hw, _⟩ := g.new hs
    obtain ⟨h1, h2⟩ := g.reach hs
    rw [hw, ← g.plw hs]
    rcases g.wf.apart s s' _ hs hs' (Good.at h2) with x | x
    · exact .inl (pl_mono x)
    · exact .inr (pl_mono x)
theorem Good.newpos : 1 ≤ (newcode code).length ∧ (newcode code).length ≤ code.length := by
  rw [g.newlen]
  refine ⟨?_, pl_le _ _⟩
  have := pl_lt (j := code.length) (by have := g.len; (first | lia | omega)) (fin_last g.len.1)
  (first | lia | omega)
theorem Good.newlast : (newcode code)[(newcode code).length - 1]? = some 8388638 := by
  have hl := fin_last g.len.1
  have e := pl_succ hl
  have h1 := g.len.1
  rw [show code.length - 1 + 1 = code.length by (first | lia | omega)] at e
  have hd : code.getD (code.length - 1) 0 = 8388638 := by rw [List.getD_eq_getElem?_getD, g.last]; rfl
  have hs : sk code (fin code) (code.length - 1) = 8388638 := by
    unfold sk; rw [hd, if_neg (fun x => by have := x.2.1; (first | lia | omega))]
  have := g.newget hl
  rw [g.newlen, e]
  show (newcode code)[pl (fin code) (code.length - 1) + 1 - 1]? = _
  rw [Nat.add_sub_cancel, this]
  congr 1
  unfold nw
  rw [g.cs_at (by (first | lia | omega)), hs, if_neg (fun x => by have := isJ.mp x.2; (first | lia | omega))]
/-- all but the last can be run -/
theorem Good.newlive {j : Nat} (hj : j + 1 < (newcode code).length) : Cov (newcode code) j := by
  have hk : j < (keptI (fin code) code.length).length := by unfold newcode at hj; rw [List.length_map] at hj; (first | lia | omega)
  obtain ⟨i, hi⟩ : ∃ i, (keptI (fin code) code.length)[j]? = some i := ⟨_, List.getElem?_eq_getElem hk⟩
  obtain ⟨h1, h2, h3⟩ := keptI_inv (by rw [fin_length]; exact Nat.le_refl _) hi
  rcases (fin_inv h1).2 with e | ⟨s, w, c1, c2, c3, c4⟩
  · exfalso
    have e1 := pl_succ h1
    rw [show i + 1 = code.length by (first | lia | omega)] at e1
    rw [g.newlen, e1, h3] at hj
    simp at hj
  · have hw : code.getD s 0 = w := by rw [List.getD_eq_getElem?_getD, c2]; rfl
    refine ⟨pl (fin code) s, _, g.newReach c1, g.newget (g.kept0 c1), ?_, ?_⟩
    · rw [← h3]; exact pl_mono c3
    · rw [(g.new c1).2.1, ← g.plw c1, ← h3, hw]
      exact pl_lt c4 h1
theorem Good.newflags : (flagsOf (newcode code)).dropLast.filter (fun b => !b) = [] := by
  rw [List.filter_eq_nil_iff]
  intro b hb
  obtain ⟨j, hj, rfl⟩ := List.mem_iff_getElem.mp hb
  rw [List.length_dropLast, flagsOf_length] at hj
  have hlt : j < (newcode code).length := by (first | lia | omega)
  have := (flagsOf_get hlt).mpr (g.newlive (by (first | lia | omega)))
  rw [List.getElem_dropLast]
  have h2 : (flagsOf (newcode code))[j]'(by rw [flagsOf_length]; (first | lia | omega)) = true := by
    rw [List.getElem?_eq_getElem (by rw [flagsOf_length]; (first | lia | omega))] at this
    exact Option.some.inj this
  rw [h2]; decide
theorem Good.newbare {s : Nat} (h : Reach code s) : ((newcode code).drop (pl (fin code) s + 1)).take (wsz (code.getD s 0) - 1) = (code.drop (s + 1)).take (wsz (code.getD s 0) - 1) := by
  obtain ⟨h1, h2⟩ := g.reach h
  have h3 := (g.wd _ _ h1 (Good.at h2)).2.2.2
  have hz := wsz_pos (code.getD s 0)
  apply List.ext_getElem?
  intro j
  rw [List.getElem?_take, List.getElem?_take]
  split
  · rename_i hj
    rw [List.getElem?_drop, List.getElem?_drop]
    have hk := g.kept h (j := j + 1) (by (first | lia | omega))
    have hp : pl (fin code) (s + (j + 1)) = pl (fin code) s + (j + 1) := pl_run _ fun i hi => g.kept h (by (first | lia | omega))
    have e1 := g.newget hk
    rw [hp, g.bare h (by (first | lia | omega)) (by (first | lia | omega))] at e1
    rw [show pl (fin code) s + 1 + j = pl (fin code) s + (j + 1) by (first | lia | omega), show s + 1 + j = s + (j + 1) by (first | lia | omega), e1]
    exact (Good.at (by (first | lia | omega))).symm
  · rfl
theorem Good.trace (lines : List Int) (hl : lines.length = code.length) : ∀ (bits : List Nat) {s : Nat}, Reach code s →
    trc (newcode code) ((keptI (fin code) code.length).map fun i => lines.getD i 0) bits (pl (fin code) s) = trc code lines bits s
  | [], _, _ => rfl
  | b :: r, s, h => by
    obtain ⟨h1, h2⟩ := g.reach h
    obtain ⟨n1, n2, n3, n4, n5⟩ := g.new h
    have k0 := g.kept0 h
    have e1 := g.newgetD k0
    have e2 : ((keptI (fin code) code.length).map fun i => lines.getD i 0).getD (pl (fin code) s) 0 = lines.getD s 0 := by
      rw [List.getD_eq_getElem?_getD, List.getElem?_map, keptI_get k0 h2 (by rw [fin_length]; exact Nat.le_refl _)]; rfl
    unfold trc
    rw [e1, e2, n1, n2, g.newbare h, n5]
    congr 1
    have hL : ∀ t ∈ nexts s (code.getD s 0), ∃ u : Nat, t = (u : Nat) ∧ Reach code u := fun t ht => g.nxt h ht
    generalize nexts s (code.getD s 0) = L at hL ⊢
    cases L with
    | nil => rfl
    | cons x r' =>
      rw [if_neg (by simp), if_neg (by simp), List.length_map]
      have hlt : b % (x :: r').length < (x :: r').length := Nat.mod_lt _ (by simp)
      generalize b % (x :: r').length = m at hlt
      rw [List.getD_eq_getElem?_getD, List.getD_eq_getElem?_getD, List.getElem?_map, List.getElem?_eq_getElem hlt]
      simp only [Option.map_some, Option.getD_some]
      obtain ⟨u, hu, hr⟩ := hL _ (List.getElem_mem hlt)
      rw [hu, Int.toNat_natCast, Int.toNat_natCast]
      exact Good.trace lines hl r hr
end

/-- all but some addresses are kept -/
noncomputable def Ch (A : Addr → Prop) (H H' : AH) : Prop := ∀ c o, ¬ A c → H c = some o → H' c = some o
theorem Ch.refl (A : Addr → Prop) (H : AH) : Ch A H H := fun _ _ _ e => e
theorem Ch.trans {A : Addr → Prop} {H H' H'' : AH} (h : Ch A H H') (k : Ch A H' H'') : Ch A H H'' := fun c o n e => k c o n (h c o n e)
theorem AH.le.ch {A : Addr → Prop} {H H' : AH} (h : H.le H') : Ch A H H' := fun c o _ e => h c o e
theorem Kp.ch {A : Addr → Prop} {d : Addr} {H H' : AH} (h : Kp d H H') (a : A d) : Ch A H H' := fun c o n e => h c o (fun x => n (x ▸ a)) e
theorem KB.ch {A : Addr → Prop} {b l : Addr} {H H' : AH} (h : KB b l H H') (a : A b) (a' : A l) : Ch A H H' := fun c o n e => h c o (fun x => n (x ▸ a)) (fun x => n (x ▸ a')) e
theorem ItemAt.ch {A : Addr → Prop} {H H' : AH} {v : AV} {d : Item} (h : ItemAt H v d) (hA : ∀ c vs, A c → H c ≠ some (.tup vs)) (l : Ch A H H') : ItemAt H' v d := by
  obtain ⟨t, e, h⟩ := h; exact ⟨t, e, l _ _ (fun a => hA _ _ a h) h⟩
theorem ItemsAt.ch {A : Addr → Prop} {H H' : AH} {vs : List AV} {ds : List Item} (h : All2 (ItemAt H) vs ds) (hA : ∀ c vs, A c → H c ≠ some (.tup vs)) (l : Ch A H H') : All2 (ItemAt H') vs ds := All2.mono (fun a b x => ItemAt.ch x hA l) h
theorem Bx.tup {b l : Addr} {H : AH} (B : Bx b l H) : ∀ vs, H b ≠ some (.tup vs) ∧ H l ≠ some (.tup vs) := by
  obtain ⟨xs, s, h1, h2, _⟩ := B
  exact fun vs => ⟨fun e => by (rw [h1] at e; cases e), fun e => by (rw [h2] at e; cases e)⟩
theorem KB.items {b l : Addr} {H H' : AH} {vs : List AV} {ds : List Item} (k : KB b l H H') (B : Bx b l H) (h : All2 (ItemAt H) vs ds) : All2 (ItemAt H') vs ds :=
  ItemsAt.ch (A := fun c => c = b ∨ c = l) h (fun c vs a => by rcases a with rfl | rfl; exact (B.tup vs).1; exact (B.tup vs).2) (k.ch (.inl rfl) (.inr rfl))
theorem All2.app {α β : Type} {R : α → β → Prop} : ∀ {l : List α} {r : List β} {l' : List α} {r' : List β}, All2 R l r → All2 R l' r' → All2 R (l ++ l') (r ++ r')
  | [], [], _, _, _, k => k
  | [], _ :: _, _, _, h, _ => h.elim
  | _ :: _, [], _, _, h, _ => h.elim
  | _ :: _, _ :: _, _, _, h, k => ⟨h.1, All2.app h.2 k⟩
theorem VAtN.ch {N : Addr} {k : KA} {A : Addr → Prop} {H H' : AH} {v : AV} {d : VD} (h : VAtN N k H v d) (hA : ∀ c, A c → ∃ vs, H c = some (.list vs)) (l : Ch A H H') : VAtN N k H' v d := by
  obtain ⟨x, dd, fs, e, h1, h2, h3, h4⟩ := h
  refine ⟨x, dd, fs, e, l _ _ (fun a => ?_) h1, l _ _ (fun a => ?_) h2, h3, h4⟩
  · obtain ⟨vs, e⟩ := hA _ a; rw [h1] at e; cases e
  · obtain ⟨vs, e⟩ := hA _ a; rw [h2] at e; cases e
theorem Bx.lists {b l : Addr} {H : AH} (B : Bx b l H) : (∃ vs, H b = some (.list vs)) ∧ ∃ vs, H l = some (.list vs) := by
  obtain ⟨xs, s, h1, h2, _⟩ := B; exact ⟨⟨_, h1⟩, ⟨_, h2⟩⟩
theorem Bx.off {b l a : Addr} {H : AH} (B : Bx b l H) (h : H a = none) : a ≠ b ∧ a ≠ l := by
  obtain ⟨xs, s, h1, h2, _⟩ := B; exact ⟨ne_sn h h1, ne_sn h h2⟩
inductive J32_0 (H : AH) (b : Addr) (l : Addr) (i : Nat) (ρ' : Loc) (Hc : AH) : Prop
  | mk : ∀ sl vs its, (ρ' "box" = some (.ref b)) → (ρ' "some" = some (.ref sl)) → (KB b l H Hc) → (Bx b l Hc) → (H sl = none) → (Hc sl = some (.list vs)) → (All2 (ItemAt Hc) vs its) → (Blks its) → (its.length ≤ 3 * i) → J32_0 H b l i ρ' Hc
inductive J32_1 (b : Addr) (l : Addr) (sl : Addr) (its' : List Item) (st : Addr) (y : Addr) (H7 : AH) (R : PV) (A : Addr → Prop) (i : Nat) (ρ' : Loc) (Hc : AH) : Prop
  | mk : (ρ' "box" = some (.ref b)) → (ρ' "some" = some (.ref sl)) → (ρ' "starts" = some (.ref st)) → (ρ' "found" = some (.ref y)) → (Ch A H7 Hc) → (Bx b l Hc) → ∀ C Ls : List Int, (Hc R.lc = some (.list (C.map .int))) → (Hc R.ll = some (.list (Ls.map .int))) → (C.length = i) → (Ls.length = i) → (i ≤ its'.length) → (∀ j d, j < i → its'[j]? = some d → (d.1 ≠ .jump → C[j]? = some d.2) ∧ (d.1 = .jump → ∃ goal ∈ keptI (flb its') its'.length, C[j]? = some (d.2 + ((goal : Int) - (j : Nat) - 1 + 131071) * 16384))) → J32_1 b l sl its' st y H7 R A i ρ' Hc
inductive J32_2 (b : Addr) (l : Addr) (sl : Addr) (its' : List Item) (st : Addr) (y : Addr) (H7 : AH) (R : PV) (A : Addr → Prop) (i : Nat) (C : List Int) (Ls : List Int) (d : Item) (ρ' : Loc) (H' : AH) : Prop
  | mk : (ρ' "box" = some (.ref b)) → (ρ' "some" = some (.ref sl)) → (ρ' "starts" = some (.ref st)) → (ρ' "found" = some (.ref y)) → (ρ' "at" = some (.int i)) → (Ch A H7 H') → (Bx b l H') → (H' R.lc = some (.list (C.map .int))) → (H' R.ll = some (.list (Ls.map .int))) → ∀ w : Int, (ρ' "word" = some (.int w)) → ((d.1 ≠ .jump → w = d.2)) → ((d.1 = .jump → ∃ goal ∈ keptI (flb its') its'.length, w = d.2 + ((goal : Int) - (i : Nat) - 1 + 131071) * 16384)) → J32_2 b l sl its' st y H7 R A i C Ls d ρ' H'
inductive J32_3 (k : KA) (b : Addr) (l : Addr) (sl : Addr) (y : Addr) (R : PV) (C : List Int) (E4 : AH) (A3 : Addr → Prop) (i : Nat) (ρ' : Loc) (Hd : AH) : Prop
  | mk : (ρ' "box" = some (.ref b)) → (ρ' "some" = some (.ref sl)) → (ρ' "found" = some (.ref y)) → (Ch A3 E4 Hd) → (Bx b l Hd) → ∀ (vl : List AV) (ld : List (Array UInt8 × Nat × Nat)), (Hd R.lv = some (.list vl)) → (vl.length = i) → (i ≤ 2) → (ld.length = i) → ((∀ N, (E4 N).isSome = true → All2 (VAtN N k Hd) vl (ld.map fun d => (.byt d.1, .int (d.2.1 : Nat), .int (d.2.2 : Nat))))) → (∀ d ∈ ld, d.2.1 ≤ C.length ∧ d.2.2 ≤ C.length) → J32_3 k b l sl y R C E4 A3 i ρ' Hd
section
variable {G : Gx} {n : Nat} {sc : Scope} {ρ : Loc} {H : AH} {Q : AV → AH → Prop} {k : KA} (W : WW G) (WC : WK G k)
include W WC
theorem law_proto_nc {b l : Addr} (B : Bx b l H)
    (q : ∀ x H' P (ld : List (Array UInt8 × Nat × Nat)), KB b l H H' → Bx b l H' → H x = none → H P.d = none → PAt k H' x P → PNd P → PNew H P → P.fs.length ≤ 40 → Good P.code → P.lines.length = P.code.length → P.consts = [.int 5] → P.kids = [] → P.upn = [] → P.src = .byt #[64, 115] → P.upc = .int 2 → P.mx = .int 8 →
      (∀ N, (H N).isSome = true ∨ N = P.d → All2 (VAtN N k H') P.locs (ld.map fun d => (.byt d.1, .int (d.2.1 : Nat), .int (d.2.2 : Nat)))) → (∀ d ∈ ld, d.2.1 ≤ P.code.length ∧ d.2.2 ≤ P.code.length) → ld.length ≤ 2 → Q (.ref x) H') :
    NC G (n + 6) "_law_proto" [.ref b] Q H := by
  refine NC.def W 65 rfl rfl rfl ?_
  wtm_at "m_open"
  wtm_at "m_run"
  refine ⟨few (by simp), fun s0 hs0 => ?_⟩
  refine gen_alloc hs0 fun H1 l1 f1 => ?_
  wtm_at "m_run"
  refine SX.for (fun _ _ => rfl) (IT.range1W W rfl rfl rfl ?_)
  wtm_at "m_run"
  refine law_take_nc W (B.le l1) (by decide) (by decide) fun r H2 k2 B2 hr => ?_
  wtm_at "m_run"
  refine ⟨by (first | lia | omega), rfl, (J32_0 H b l),
    ⟨s0, [], [], rfl, rfl, l1.kb.trans k2, B2, hs0, k2 _ _ (B.off hs0).1 (B.off hs0).2 f1, trivial, .nil, Nat.le_refl _⟩, ?_, ?_⟩
  · rintro i ρ' Hc hi ⟨sl, vs, its, g1, g2, kc, Bc, hsl, fsl, hit, hbl, hlen⟩
    have hi : i < (2 + (r : Int)).toNat := hi
    have hvl := hit.length
    refine ⟨trivial, ?_⟩
    refine AS.name rfl ?_
    wtm_at "m_run"
    refine law_take_nc W Bc (by decide) (by decide) fun r' H3 k3 B3 hr' => ?_
    wtm_at "m_run"
    refine law_some_nc W B3 (by (first | lia | omega)) fun f us jts H4 k4 B4 f4 hj hblk => ?_
    have k34 := k3.trans k4
    have fs4 := k34 _ _ (B.off hsl).1 (B.off hsl).2 fsl
    have hbk := hblk.len
    have hjl := hj.length
    refine BO.cat fs4 f4 (by rw [sizeLine_eq]; (first | lia | omega)) fun a ha => ?_
    refine gen_alloc ha fun H5 l5 f5 => ?_
    wtm_at "m_run"
    refine ⟨H5, .refl _, a, _, its ++ jts, g1, rfl, (kc.trans k34).trans l5.kb, B4.le l5, (kc.trans k34).none B4 ha, f5, ?_, hbl.snoc hblk, ?_⟩
    · exact ItemsAt.le (All2.app ((k34.items Bc hit)) hj) l5
    · rw [List.length_append]; (first | lia | omega)
  rintro ρ' Hc ⟨sl, vs, its, g1, g2, kc, Bc, hsl, fsl, hit, hbl, hlen⟩
  have hlen : its.length ≤ 3 * (2 + (r : Int)).toNat := hlen
  have hvl := hit.length
  refine ⟨trivial, ?_⟩
  wtm_at "m_run"
  refine ⟨_, _, rfl, fsl, ?_⟩
  wtm_at "m_run"
  refine law_word_nc W (by decide) (by decide) (by decide) ?_
  wtm_at "m_run"
  refine ⟨few (by simp), fun t ht => ?_⟩
  generalize hH3 : Hc.set t _ = H3
  have l3 : Hc.le H3 := by rw [← hH3]; exact le_set ht
  have f3 : H3 t = some (.tup [.str "word", .int 8388638]) := by rw [← hH3]; exact AH.set_self _ _ _
  clear hH3
  wtm_at "m_run"
  refine ⟨_, l3 _ _ fsl, by rw [sizeLine_eq]; (first | lia | omega), rfl, ?_⟩
  have hts : t ≠ sl := ne_sn ht fsl
  have B3 := Bc.le l3
  have kc3 := kc.trans (l3.kb (b := b) (l := l))
  have hbl' := B.off hsl
  have hitF : All2 (ItemAt (H3.set sl (.list (vs ++ [.ref t])))) (vs ++ [.ref t]) (its ++ [(.word, 8388638)]) := by
    refine All2.snoc ⟨t, rfl, (AH.set_ne _ _ hts).trans f3⟩ ?_
    refine ItemsAt.ch (A := fun c => c = sl) (ItemsAt.le hit l3) (fun c us a e => ?_) (Kp.ch (Kp.set sl H3 _) rfl)
    subst a; rw [l3 _ _ fsl] at e; cases e
  have B4 := B3.kp' (Ne.symm hbl'.1) (Ne.symm hbl'.2) (Kp.set sl H3 (.list (vs ++ [.ref t])))
  have kc4 : KB b l H (H3.set sl (.list (vs ++ [.ref t]))) := fun c o n1 n2 e => (AH.set_ne _ _ (ne_ns e hsl)).trans (kc3 c o n1 n2 e)
  have fs4 : (H3.set sl (.list (vs ++ [.ref t]))) sl = some (.list (vs ++ [.ref t])) := AH.set_self _ _ _
  generalize hvs : vs ++ [AV.ref t] = vs' at hitF B4 kc4 fs4 ⊢
  wtm_at "m_run"
  generalize H3.set sl (.list vs') = H4 at hitF B4 kc4 fs4 ⊢
  have hvl' := hitF.length
  have hil : (its ++ [((.word, 8388638) : Item)]).length ≤ 19 := by simp; (first | lia | omega)
  refine SX.comp rfl (fun _ _ => rfl) (fun _ => rfl) rfl rfl (IT.enumW W rfl rfl rfl ?_)
  wtm_at "m_run"
  generalize hits : its ++ [((.word, 8388638) : Item)] = its' at hitF hvl' hil
  refine ⟨_, _, rfl, fs4, ?fit, fun i ys Hc => H4.le Hc ∧ ys = natL (keptI (flb its') i) ∧ i ≤ its'.length, ⟨.refl _, rfl, Nat.zero_le _⟩, ?turn, ?fin⟩
  case fit => rfl
  case turn =>
    rintro i ys Hc hi ⟨lc, rfl, _⟩
    have hi : i < vs'.length := hi
    have hkl : (keptI (flb its') i).length ≤ i := by unfold keptI; exact Nat.le_trans (List.length_filter_le _ _) (by simp)
    refine ⟨lc _ _ fs4, by simp [natL]; (first | lia | omega), fun v ev t ht => ?_⟩
    obtain ⟨d, ed, hd⟩ := hitF.at ev
    obtain ⟨u, rfl, hu⟩ := hd
    have hu' := set_old (o := .tup [.int i, .ref u]) ht (lc _ _ hu)
    have lc' := lc.trans (le_set (o := .tup [.int i, .ref u]) ht)
    have hks := keptI_succ (flb its') i
    have hfi : (flb its')[i]? = some (d.1 != .bare) := by unfold flb; rw [List.getElem?_map, ed]; rfl
    wtm_at "m_run"
    refine ⟨fun y u e => ?_, IFS.one ?_⟩
    · exact Loc.le_set rfl _ _ (Loc.le_set rfl _ _ e)
    wtm_at "m_run"
    refine ⟨_, _, rfl, .inr hu', ?_⟩
    refine GI.tup hu' (by decide) (by decide) (v := .str d.1.str) rfl ?_
    wtm_at "m_run"
    refine ife_b (fun hb => ?_) fun hb => ?_
    · wtm_at "m_run"
      refine ⟨_, .refl _, lc', ?_, by (first | lia | omega)⟩
      rw [hks, hfi, if_pos, natL_append]
      · rfl
      · congr 1
        cases hd : d.1 with
        | word => rfl
        | jump => rfl
        | bare => rw [hd] at hb; exact absurd hb (by decide)
    · refine ⟨_, .refl _, lc', ?_, by (first | lia | omega)⟩
      rw [hks, hfi, if_neg, List.append_nil]
      intro hx
      have hx := Option.some.inj hx
      cases hd : d.1 with
      | word => rw [hd] at hb; exact absurd hb (by decide)
      | jump => rw [hd] at hb; exact absurd hb (by decide)
      | bare => rw [hd] at hx; exact absurd hx (by decide)
  rintro ys H5 ⟨lc, rfl, _⟩
  refine ⟨lc _ _ fs4, fun st hst => ?_⟩
  have el : (Src.enum sl vs').len = its'.length := by show vs'.length = _; exact hvl'
  rw [el]
  wtm_at "m_w1"
  refine gen_alloc hst fun H6 l6 f6 => ?_
  have k6 : KB b l H H6 := kc4.trans (lc.trans l6).kb
  have B6 := B4.le (lc.trans l6)
  have hit6 := ItemsAt.le hitF (lc.trans l6)
  have fs6 := (lc.trans l6) _ _ fs4
  have hst0 : H st = none := (kc4.trans lc.kb).none (B4.le lc) hst
  have hsst : sl ≠ st := ne_ns (lc _ _ fs4) hst
  clear hst l6 lc hitF B4 kc4 fs4
  wtm_at "m_run"
  refine EV.newProto WC rfl rfl fun y H7 R hN p0 p1 p2 p3 p4 p5 p6 p7 p8 p9 p10 p11 p12 p13 => ?_
  wtm_at "m_run"
  refine SX.for (fun _ _ => rfl) (IT.enumW W rfl rfl rfl ?_)
  wtm_at "m_run"
  have hA : ∀ c, H6 c = none → c ≠ b ∧ c ≠ l := fun c h => B6.off h
  obtain ⟨w1, w2, w3, w4, w5, w6⟩ := hN.new
  have nod := hN.nod
  have hPR := hN.at_
  have hitems7 := ItemsAt.le hit6 hN.le
  have B7 := B6.le hN.le
  have nlcl : R.lc ≠ R.ll := by
    have := nod; unfold PNd at this
    simp only [List.nodup_cons, List.mem_cons, List.not_mem_nil, or_false, not_or] at this
    exact this.1.1
  obtain ⟨A, hAd⟩ : ∃ A : Addr → Prop, A = fun c => c = b ∨ c = l ∨ c = R.lc ∨ c = R.ll := ⟨_, rfl⟩
  have aB : A b := by rw [hAd]; exact .inl rfl
  have aL : A l := by rw [hAd]; exact .inr (.inl rfl)
  have aC : A R.lc := by rw [hAd]; exact .inr (.inr (.inl rfl))
  have aI : A R.ll := by rw [hAd]; exact .inr (.inr (.inr rfl))
  have aN : ∀ c, c ≠ b → c ≠ l → c ≠ R.lc → c ≠ R.ll → ¬ A c := fun c h1 h2 h3 h4 => by
    rw [hAd]; rintro (x | x | x | x)
    · exact h1 x
    · exact h2 x
    · exact h3 x
    · exact h4 x
  have nSl : ¬ A sl := aN _ hbl'.1 hbl'.2 (ne_ns fs6 w1) (ne_ns fs6 w2)
  have nSt : ¬ A st := aN _ (B.off hst0).1 (B.off hst0).2 (ne_ns f6 w1) (ne_ns f6 w2)
  have tupA : ∀ c us, A c → H7 c ≠ some (.tup us) := fun c us a e => by
    rw [hAd] at a
    rcases a with rfl | rfl | rfl | rfl
    · exact (B7.tup us).1 e
    · exact (B7.tup us).2 e
    · rw [hPR.code] at e; cases e
    · rw [hPR.lines] at e; cases e
  have mkP : ∀ (Hx : AH) (C Ls : List Int), Ch A H7 Hx → Hx R.lc = some (.list (C.map .int)) → Hx R.ll = some (.list (Ls.map .int)) → PAt k Hx y { R with code := C, lines := Ls } := fun Hx C Ls ch e1 e2 => by
    have := nod; unfold PNd at this
    simp only [List.nodup_cons, List.mem_cons, List.not_mem_nil, or_false, not_or] at this
    obtain ⟨⟨a1, a2, a3, a4, a5⟩, ⟨b2, b3, b4, b5⟩, _⟩ := this
    have ty : ¬ A y := aN _ (hA _ hN.nx).1 (hA _ hN.nx).2 (ne_ss hPR.ix hPR.code (by intro h; cases h)) (ne_ss hPR.ix hPR.lines (by intro h; cases h))
    have td : ¬ A R.d := aN _ (hA _ hN.nd).1 (hA _ hN.nd).2 (ne_ss hPR.id hPR.code (by intro h; cases h)) (ne_ss hPR.id hPR.lines (by intro h; cases h))
    exact ⟨ch _ _ ty hPR.ix, ch _ _ td hPR.id, hPR.sz, hPR.tab, e1, e2, ch _ _ (aN _ (hA _ w3).1 (hA _ w3).2 (Ne.symm a2) (Ne.symm b2)) hPR.consts, ch _ _ (aN _ (hA _ w4).1 (hA _ w4).2 (Ne.symm a3) (Ne.symm b3)) hPR.locs,
      ch _ _ (aN _ (hA _ w5).1 (hA _ w5).2 (Ne.symm a4) (Ne.symm b4)) hPR.kids, ch _ _ (aN _ (hA _ w6).1 (hA _ w6).2 (Ne.symm a5) (Ne.symm b5)) hPR.upn⟩
  have hK : 1 ≤ (keptI (flb its') its'.length).length := by
    have : its.length ∈ keptI (flb its') its'.length := by
      unfold keptI
      refine List.mem_filter.mpr ⟨List.mem_range.mpr (by rw [← hits]; simp), ?_⟩
      rw [← hits]; simp [flb]
    exact List.length_pos_of_mem this
  have hK2 : (keptI (flb its') its'.length).length ≤ 19 := by unfold keptI; exact Nat.le_trans (List.length_filter_le _ _) (by simp; (first | lia | omega))
  have g1' : ((ρ'.set "starts" (.ref st)).set "found" (.ref y)) "box" = some (.ref b) := g1
  refine ⟨_, _, rfl, hN.le _ _ fs6, rfl, (J32_1 b l sl its' st y H7 R A),
    ⟨g1, g2, rfl, rfl, Ch.refl _ _, B7, [], [], by rw [hPR.code, p1], by rw [hPR.lines, p2], rfl, rfl, Nat.zero_le _, fun j d h => absurd h (Nat.not_lt_zero _)⟩, ?_, ?_⟩
  · clear g1 g2 g1'
    rintro i ρ' Hc hi ⟨g1, g2, g3, g4, ch, Bc, C, Ls, eC, eL, lC, lL, hile, hCj⟩
    have hi : i < vs'.length := hi
    refine ⟨ch _ _ nSl (hN.le _ _ fs6), fun v ev t ht => ?_⟩
    obtain ⟨d, ed, hd⟩ := hitems7.at ev
    have hd := hd.ch tupA ch
    obtain ⟨u, rfl, hu⟩ := hd
    have hut := set_old (o := .tup [.int i, .ref u]) ht hu
    have lt := le_set (o := .tup [.int i, .ref u]) ht
    have ch1 := ch.trans (lt.ch (A := A))
    have B1 := Bc.le lt
    have eC1 := lt _ _ eC
    have eL1 := lt _ _ eL
    wtm_at "m_run"
    generalize Hc.set t (.tup [.int i, .ref u]) = Hd at hut lt ch1 B1 eC1 eL1 ⊢
    refine ⟨_, _, rfl, .inr hut, ?_⟩
    refine GI.tup hut (by decide) (by decide) (v := .int d.2) rfl ?_
    wtm_at "m_w1"
    refine SXs.cons (SX.cutJ (J32_2 b l sl its' st y H7 R A i C Ls d) ?_ ?_)
    · wtm_at "m_run"
      refine ⟨_, _, rfl, .inr hut, ?_⟩
      refine GI.tup hut (by decide) (by decide) (v := .str d.1.str) rfl ?_
      wtm_at "m_run"
      refine ife_b (fun hj => ?_) fun hj => ?_
      · have hdj : d.1 = .jump := by
          cases hd : d.1 with
          | jump => rfl
          | word => rw [hd] at hj; exact absurd hj (by decide)
          | bare => rw [hd] at hj; exact absurd hj (by decide)
        have est := ch1 _ _ nSt (hN.le _ _ f6)
        wtm_at "m_run"
        refine law_take_nc W B1 (by (first | lia | omega)) (by (first | lia | omega)) fun r' H8 k8 B8 hr' => ?_
        have hr' : r' < (keptI (flb its') its'.length).length := by (first | lia | omega)
        have ch8 := ch1.trans (k8.ch aB aL)
        have eC8 := k8 _ _ (hA _ w1).1 (hA _ w1).2 eC1
        have eL8 := k8 _ _ (hA _ w2).1 (hA _ w2).2 eL1
        have est8 := ch8 _ _ nSt (hN.le _ _ f6)
        have hut8 : H8 u = some (.tup [.str d.1.str, .int d.2]) := k8 _ _ (fun e => (B1.tup _).1 (e ▸ hut)) (fun e => (B1.tup _).2 (e ▸ hut)) hut
        obtain ⟨goal, hgoal⟩ : ∃ goal, (keptI (flb its') its'.length)[r']? = some goal := ⟨_, List.getElem?_eq_getElem hr'⟩
        have hgm := List.mem_of_getElem? hgoal
        have hgl := keptI_mem hgm
        wtm_at "m_run"
        refine GI.list est8 (by (first | lia | omega)) (by (first | lia | omega)) (v := .int (goal : Nat)) (by unfold natL; rw [Int.toNat_natCast, List.getElem?_map, hgoal]; rfl) ?_
        wtm_at "m_run"
        refine ⟨_, _, rfl, .inr hut8, ?_⟩
        refine GI.tup hut8 (by decide) (by decide) (v := .int d.2) rfl ?_
        wtm_at "m_run"
        refine BO.mul (by (first | lia | omega)) ?_
        wtm_at "m_run"
        exact ⟨rfl, g1, g2, g3, g4, rfl, ch8, B8, eC8, eL8, _, rfl, fun h => absurd hdj h, fun _ => ⟨goal, hgm, rfl⟩⟩
      · have hdj : d.1 ≠ .jump := fun h => by rw [h] at hj; exact absurd hj (by decide)
        wtm_at "m_run"
        exact ⟨rfl, g1, g2, g3, g4, rfl, ch1, B1, eC1, eL1, _, rfl, fun _ => rfl, fun h => absurd h hdj⟩
    clear g1 g2 g3 g4 ch1 B1 eC1 eL1 hut lt Hd
    rintro ρ'' He ⟨g1, g2, g3, g4, g5, ch1, B1, eC1, eL1, w, g6, hw1, hw2⟩
    have hP1 := mkP He C Ls ch1 eC1 eL1
    wtm_at "m_run"
    refine ⟨_, _, rfl, eC1, ?_⟩
    wtm_at "m_run"
    refine ⟨_, eC1, by rw [List.length_map, sizeLine_eq]; (first | lia | omega), rfl, ?_⟩
    rw [show C.map AV.int ++ [AV.int w] = (C ++ [w]).map .int by simp]
    have ch2 := ch1.trans (Kp.ch (Kp.set R.lc He (.list ((C ++ [w]).map .int))) aC)
    have B2' := B1.kp' (Ne.symm (hA _ w1).1) (Ne.symm (hA _ w1).2) (Kp.set R.lc He (.list ((C ++ [w]).map .int)))
    have eC2 : (He.set R.lc (.list ((C ++ [w]).map .int))) R.lc = some (.list ((C ++ [w]).map .int)) := AH.set_self _ _ _
    have eL2 : (He.set R.lc (.list ((C ++ [w]).map .int))) R.ll = some (.list (Ls.map .int)) := (AH.set_ne _ _ nlcl.symm).trans eL1
    wtm_at "m_w1"
    generalize He.set R.lc (.list ((C ++ [w]).map .int)) = Hf at ch2 B2' eC2 eL2 ⊢
    have hP2 := mkP Hf _ _ ch2 eC2 eL2
    wtm_at "m_run"
    refine ⟨_, _, rfl, eL2, ?_⟩
    wtm_at "m_run"
    refine ⟨_, eL2, by rw [List.length_map, sizeLine_eq]; (first | lia | omega), rfl, ?_⟩
    rw [show Ls.map AV.int ++ [AV.int (100 + (i : Nat))] = (Ls ++ [(100 : Int) + ((i : Nat) : Int)]).map .int by simp]
    wtm_at "m_run"
    refine ⟨_, .refl _, g1, g2, g3, g4, ch2.trans (Kp.ch (Kp.set R.ll _ _) aI), B2'.kp' (Ne.symm (hA _ w2).1) (Ne.symm (hA _ w2).2) (Kp.set R.ll _ _), C ++ [w], Ls ++ [(100 : Int) + ((i : Nat) : Int)], (AH.set_ne _ _ nlcl).trans eC2, AH.set_self _ _ _, by simp [lC], by simp [lL], by (first | lia | omega), fun j d' hj ed' => ?_⟩
    by_cases hji : j = i
    · subst hji
      rw [ed] at ed'
      obtain rfl := Option.some.inj ed'
      have : (C ++ [w])[j]? = some w := by rw [List.getElem?_append_right (by (first | lia | omega)), lC, Nat.sub_self]; rfl
      exact ⟨fun h => by rw [this, hw1 h], fun h => by
        obtain ⟨goal, a1, a2⟩ := hw2 h
        exact ⟨goal, a1, by rw [this, a2]⟩⟩
    · have := hCj j d' (by (first | lia | omega)) ed'
      rw [List.getElem?_append_left (by (first | lia | omega))]
      exact this
  clear g1 g2 g1'
  rintro ρ' Hc ⟨g1, g2, g3, g4, ch, Bc, C, Ls, eC, eL, lC, lL, _, hCj⟩
  have el2 : (Src.enum sl vs').len = its'.length := el
  rw [el2] at lC lL hCj
  refine ⟨ch _ _ nSl (hN.le _ _ fs6), ?_⟩
  have hP3 := mkP Hc C Ls ch eC eL
  have hcode : CodeOf its' C := ⟨lC, fun j d e => hCj j d (List.getElem?_eq_some_iff.mp e).1 e⟩
  have hgood : Good C := by rw [← hits] at hcode; exact good_of hbl (by (first | lia | omega)) hcode
  have fs8 := ch _ _ nSl (hN.le _ _ fs6)
  wtm_at "m_run"
  have iy := hP3.ix
  have id3 : Hc R.d = some (.flds R.fs) := hP3.id
  have hyd : y ≠ R.d := ne_ss iy id3 (by intro h; cases h)
  refine ⟨few (by simp), fun a9 ha9 => ?_⟩
  refine gen_alloc ha9 fun G1 m1 h1 => ?_
  wtm_at "m_run"
  refine ⟨few (by simp), fun t9 ht9 => ?_⟩
  refine gen_alloc ht9 fun G2 m2 h2 => ?_
  have id4 := (m1.trans m2) _ _ id3
  have nd9 : a9 ≠ R.d := ne_sn ha9 id3
  wtm_at "m_run"
  wtm_at "m_put"
  wtm_at "m_w1"
  refine gen_set fun E1 q1 e1 => ?_
  wtm_at "m_run"
  wtm_at "m_put"
  wtm_at "m_w1"
  refine gen_set fun E2 q2 e2 => ?_
  wtm_at "m_run"
  wtm_at "m_put"
  wtm_at "m_w1"
  refine gen_set fun E3 q3 e3 => ?_
  wtm_at "m_run"
  wtm_at "m_put"
  wtm_at "m_w1"
  wtm_at "m_w1"
  refine gen_set fun E4 q4 e4 => ?_
  have kcH : KB b l H Hc := fun c o n1 n2 e => ch _ _ (aN _ n1 n2 (ne_ns e (k6.none B6 w1)) (ne_ns e (k6.none B6 w2))) (hN.le _ _ (k6 _ _ n1 n2 e))
  have k4 : Kp R.d G2 E4 := fun c o hc e => q4 _ _ hc (q3 _ _ hc (q2 _ _ hc (q1 _ _ hc e)))
  have up : ∀ {c : Addr} {o : AO}, c ≠ R.d → Hc c = some o → E4 c = some o := fun hc e => k4 _ _ hc ((m1.trans m2) _ _ e)
  have upL : ∀ {c : Addr} {us : List AV}, Hc c = some (.list us) → E4 c = some (.list us) := fun e => up (ne_ss e id3 (by intro h; cases h)) e
  have lk9 : E4 a9 = some (.list [.int 5]) := k4 _ _ nd9 (m2 _ _ h1)
  have nk9 : H a9 = none := kcH.none Bc ha9
  have B5 : Bx b l E4 := by
    obtain ⟨xs, s, b1, b2, b3⟩ := Bc
    exact ⟨xs, s, upL b1, upL b2, b3⟩
  have hRd0 : H R.d = none := k6.none B6 hN.nd
  have hRd6 : R.d ≠ b ∧ R.d ≠ l := hA _ hN.nd
  have kE : KB b l H E4 := fun c o n1 n2 e => up (ne_ns e hRd0) (kcH _ _ n1 n2 e)
  have hnod : PNd { R with lk := a9 } := by
    have c1 : R.lc ≠ a9 := ne_ns hP3.code ha9
    have c2 : R.ll ≠ a9 := ne_ns hP3.lines ha9
    have c3 : R.lv ≠ a9 := ne_ns hP3.locs ha9
    have c4 : R.lp ≠ a9 := ne_ns hP3.kids ha9
    have c5 : R.lu ≠ a9 := ne_ns hP3.upn ha9
    unfold PNd at nod ⊢
    simp only [List.nodup_cons, List.mem_cons, List.not_mem_nil, or_false, not_or] at nod ⊢
    obtain ⟨⟨a1, a2, a3, a4, a5⟩, ⟨b2, b3, b4, b5⟩, ⟨d3, d4, d5⟩, e⟩ := nod
    exact ⟨⟨a1, c1, a3, a4, a5⟩, ⟨c2, b3, b4, b5⟩, ⟨c3.symm, c4.symm, c5.symm⟩, e⟩
  have fs9 := upL fs8
  have hz9 : (fset (fset (fset (fset R.fs "upvalue_count" (.int 2)) "max_stack" (.int 8)) "constants" (.ref a9)) "source" (.byt #[64, 115])).length ≤ 24 := by simp only [fset, List.length_cons]; (first | lia | omega)
  have hRt : ∀ f v, R.tab.lookup f = some v → R.fs.lookup f = some v := hPR.tab
  have hlv5 : E4 R.lv = some (.list []) := by rw [← p4]; exact upL hP3.locs
  have lvN : R.lv ≠ b ∧ R.lv ≠ l := hA _ w4
  have lvs : R.lv ≠ sl := ne_sn w4 fs6
  have ydE : E4 y = some (.inst k.CP R.d) := up hyd iy
  have listsE : E4 R.lc = some (.list (C.map .int)) ∧ E4 R.ll = some (.list (Ls.map .int)) ∧ E4 R.lp = some (.list R.kids) ∧ E4 R.lu = some (.list R.upn) := ⟨upL hP3.code, upL hP3.lines, upL hP3.kids, upL hP3.upn⟩
  have e4' : E4 R.d = some (.flds (fset (fset (fset (fset R.fs "upvalue_count" (.int 2)) "max_stack" (.int 8)) "constants" (.ref a9)) "source" (.byt #[64, 115]))) := e4
  clear e1 e2 e3 e4 q1 q2 q3 q4 h1 h2 m1 m2 k4 ht9 iy id3 id4 up upL hP3 eC eL ch
  obtain ⟨A3, hA3⟩ : ∃ A : Addr → Prop, A = fun c => c = b ∨ c = l ∨ c = R.lv := ⟨_, rfl⟩
  have aB3 : A3 b := by rw [hA3]; exact .inl rfl
  have aL3 : A3 l := by rw [hA3]; exact .inr (.inl rfl)
  have aV3 : A3 R.lv := by rw [hA3]; exact .inr (.inr rfl)
  have aN3 : ∀ c, c ≠ b → c ≠ l → c ≠ R.lv → ¬ A3 c := fun c h1 h2 h3 => by
    rw [hA3]; rintro (x | x | x)
    · exact h1 x
    · exact h2 x
    · exact h3 x
  have nSl3 : ¬ A3 sl := aN3 _ hbl'.1 hbl'.2 lvs.symm
  have mkP4 : ∀ (Hx : AH) (vl : List AV), Ch A3 E4 Hx → Hx R.lv = some (.list vl) → PAt k Hx y { R with code := C, lines := Ls, lk := a9, consts := [.int 5], locs := vl, src := .byt #[64, 115], upc := .int 2, mx := .int 8, fs := fset (fset (fset (fset R.fs "upvalue_count" (.int 2)) "max_stack" (.int 8)) "constants" (.ref a9)) "source" (.byt #[64, 115]) } := fun Hx vl chx ev => by
    have nd := hnod
    unfold PNd at nd
    simp only [List.nodup_cons, List.mem_cons, List.not_mem_nil, or_false, not_or] at nd
    obtain ⟨⟨a1, a2, a3, a4, a5⟩, ⟨b2, b3, b4, b5⟩, ⟨d3, d4, d5⟩, ⟨e4, e5⟩, _⟩ := nd
    have ty : ¬ A3 y := aN3 _ (hA _ hN.nx).1 (hA _ hN.nx).2 (ne_ss ydE hlv5 (by intro h; cases h))
    have td : ¬ A3 R.d := aN3 _ hRd6.1 hRd6.2 (ne_ss e4' hlv5 (by intro h; cases h))
    refine ⟨chx _ _ ty ydE, chx _ _ td e4', ?_, PV.tabI (hRt "code" _ rfl) (hRt "line_info" _ rfl) rfl (hRt "locals" _ rfl) (hRt "protos" _ rfl) (hRt "upvalue_names" _ rfl) rfl (hRt "line_defined" _ rfl) (hRt "last_line" _ rfl) rfl (hRt "param_count" _ rfl) (hRt "is_vararg" _ rfl) rfl,
      chx _ _ (aN3 _ (hA _ w1).1 (hA _ w1).2 a3) listsE.1, chx _ _ (aN3 _ (hA _ w2).1 (hA _ w2).2 b3) listsE.2.1, chx _ _ (aN3 _ (B.off nk9).1 (B.off nk9).2 d3) lk9, ev, chx _ _ (aN3 _ (hA _ w5).1 (hA _ w5).2 (Ne.symm e4)) listsE.2.2.1, chx _ _ (aN3 _ (hA _ w6).1 (hA _ w6).2 (Ne.symm e5)) listsE.2.2.2⟩
    show (fset (fset (fset (fset R.fs _ _) _ _) _ _) _ _).length ≤ 400
    (first | lia | omega)
  have smN : ∀ (Hx : AH) (vl : List AV), Ch A3 E4 Hx → Bx b l Hx → Hx R.lv = some (.list vl) → ∀ N, (E4 N).isSome = true → ∃ o, Hx N = some o := fun Hx vl chx Bx' ev N hN' => by
    obtain ⟨o, ho⟩ := Option.isSome_iff_exists.mp hN'
    by_cases n1 : N = b
    · subst n1; obtain ⟨us, e⟩ := Bx'.lists.1; exact ⟨_, e⟩
    by_cases n2 : N = l
    · subst n2; obtain ⟨us, e⟩ := Bx'.lists.2; exact ⟨_, e⟩
    by_cases n3 : N = R.lv
    · subst n3; exact ⟨_, ev⟩
    exact ⟨o, chx _ _ (aN3 _ n1 n2 n3) ho⟩
  wtm_at "m_run"
  refine SX.for (fun _ _ => rfl) (IT.range1W W rfl rfl rfl ?_)
  wtm_at "m_run"
  refine ⟨by decide, rfl, (J32_3 k b l sl y R C E4 A3),
    ⟨g1, g2, g4, Ch.refl _ _, B5, [], [], hlv5, rfl, by decide, rfl, fun _ _ => trivial, by simp⟩, ?_, ?_⟩
  · clear g1 g2 g3 g4
    rintro i ρ' Hd hi ⟨g1, g2, g3, chd, Bd, vl, ld, ev, lv1, lv2, lv3, hvN, hle⟩
    have hi : i < 2 := hi
    refine ⟨trivial, ?_⟩
    refine AS.name rfl ?_
    have fsd := chd _ _ nSl3 fs9
    have hvn : vs'.length = C.length := by rw [hvl', lC]
    have hC1 := hgood.len
    wtm_at "m_run"
    refine law_take_nc W Bd (by (first | lia | omega)) (by (first | lia | omega)) fun r1 Hg k9 B9 hr1 => ?_
    have chg := chd.trans (k9.ch aB3 aL3)
    have evg := k9 _ _ lvN.1 lvN.2 ev
    have hPg := mkP4 Hg vl chg evg
    have fsg := chg _ _ nSl3 fs9
    wtm_at "m_run"
    refine ⟨_, _, rfl, evg, ?_⟩
    refine EV.newVar WC rfl rfl rfl ?_
    wtm_at "m_run"
    refine ⟨few (by simp), fun t1 ht1 => ?_⟩
    refine ⟨t1, 120 + (0 + (i : Int)), rfl, AH.set_self _ _ _, by (first | lia | omega), ?_⟩
    have lt1 := le_set (o := .list [.int (120 + (0 + (i : Int)))]) ht1
    generalize Hg.set t1 (.list [.int (120 + (0 + (i : Int)))]) = Hh at lt1 ⊢
    have chh := chg.trans (lt1.ch (A := A3))
    have evh := lt1 _ _ evg
    have fsh := lt1 _ _ fsg
    wtm_at "m_run"
    refine law_take_nc W (B9.le lt1) (by (first | lia | omega)) (by (first | lia | omega)) fun r2 Hi k10 B10 hr2 => ?_
    have chi := chh.trans (k10.ch aB3 aL3)
    have evi := k10 _ _ lvN.1 lvN.2 evh
    wtm_at "m_run"
    refine ⟨_, _, _, rfl, fun xv Hj hxv lj hvat hvatN => ?_⟩
    have chj := chi.trans (lj.ch (A := A3))
    have evj := lj _ _ evi
    refine ⟨_, evj, by rw [sizeLine_eq]; (first | lia | omega), rfl, ?_⟩
    have kpv := Kp.set R.lv Hj (.list (vl ++ [.ref xv]))
    have chk := chj.trans (kpv.ch aV3)
    have Bk := (B10.le lj).kp' lvN.1.symm lvN.2.symm kpv
    wtm_at "m_run"
    refine ⟨_, .refl _, g1, g2, g3, chk, Bk, vl ++ [.ref xv], ld ++ [(byteArr [120 + (0 + (i : Int))], r1, r1 + r2)], AH.set_self _ _ _, by simp [lv1], by (first | lia | omega), by simp [lv3], fun N hN' => ?_, fun d hd => ?_⟩
    · rw [List.map_append]
      refine All2.snoc ?_ ?_
      · obtain ⟨o, ho⟩ := smN Hi vl chi B10 evi N hN'
        have := hvatN N o ho
        rw [show ((r1 : Int) + (r2 : Int)) = ((r1 + r2 : Nat) : Int) by (first | lia | omega)] at this
        exact this.ch (A := fun c => c = R.lv) (fun c a => by subst a; exact ⟨_, evj⟩) (kpv.ch rfl)
      · refine All2.mono (fun a b' h => ?_) (hvN N hN')
        have h1 := VAtN.ch (A := A3) h (fun c a => ?_) (k9.ch aB3 aL3)
        · have h2 := (h1.le lt1)
          have h3 := VAtN.ch (A := A3) h2 (fun c a => ?_) (k10.ch aB3 aL3)
          · have h4 := h3.le lj
            exact h4.ch (A := fun c => c = R.lv) (fun c a => by subst a; exact ⟨_, evj⟩) (kpv.ch rfl)
          · rw [hA3] at a
            rcases a with rfl | rfl | rfl
            · exact (B9.le lt1).lists.1
            · exact (B9.le lt1).lists.2
            · exact ⟨_, evh⟩
        · rw [hA3] at a
          rcases a with rfl | rfl | rfl
          · exact Bd.lists.1
          · exact Bd.lists.2
          · exact ⟨_, ev⟩
    · rcases List.mem_append.mp hd with h | h
      · exact hle d h
      · simp at h; subst h; dsimp only; (first | lia | omega)
  clear g1 g2 g3 g4
  rintro ρ' Hd ⟨g1, g2, g3, chd, Bd, vl, ld, ev, lv1, lv2, lv3, hvN, hle⟩
  refine ⟨trivial, ?_⟩
  have lv3 : ld.length = 2 := lv3
  wtm_at "m_run"
  refine .ret ?_
  have hPf := mkP4 Hd vl chd ev
  have kf : KB b l H Hd := fun c o n1 n2 e => chd _ _ (aN3 _ n1 n2 (ne_ns e (k6.none B6 w4))) (kE c o n1 n2 e)
  refine q y Hd { R with code := C, lines := Ls, lk := a9, consts := [.int 5], locs := vl, src := .byt #[64, 115], upc := .int 2, mx := .int 8, fs := fset (fset (fset (fset R.fs "upvalue_count" (.int 2)) "max_stack" (.int 8)) "constants" (.ref a9)) "source" (.byt #[64, 115]) } ld kf Bd (k6.none B6 hN.nx) hRd0 hPf ?_ ⟨k6.none B6 w1, k6.none B6 w2, nk9, k6.none B6 w4, k6.none B6 w5, k6.none B6 w6⟩ ?_ hgood ?_ rfl p5 p6 rfl rfl rfl (fun N hN' => hvN N ?_) hle (by (first | lia | omega))
  · unfold PNd at hnod ⊢; exact hnod
  · exact Nat.le_trans hz9 (by decide)
  · show Ls.length = C.length; rw [lC, lL]
  · rcases hN' with h | h
    · obtain ⟨o, ho⟩ := Option.isSome_iff_exists.mp h
      by_cases n1 : N = b
      · subst n1; obtain ⟨us, e⟩ := B5.lists.1; rw [e]; rfl
      by_cases n2 : N = l
      · subst n2; obtain ⟨us, e⟩ := B5.lists.2; rw [e]; rfl
      rw [kE N o n1 n2 ho]; rfl
    · rw [h]; show (E4 R.d).isSome = true; rw [e4']; rfl
end

/-- the heap without an address -/
noncomputable def AH.del (H : AH) (f : Addr) : AH := fun c => if c = f then none else H c
theorem del_self (H : AH) (f : Addr) : H.del f f = none := if_pos rfl
theorem del_ne {H : AH} {f c : Addr} (h : c ≠ f) : H.del f c = H c := if_neg h
theorem del_le (H : AH) (f : Addr) : (H.del f).le H := fun c o e => by
  unfold AH.del at e; split at e
  · cases e
  · exact e
theorem del_mono {H H' : AH} {f : Addr} (l : H.le H') : (H.del f).le (H'.del f) := fun c o e => by
  unfold AH.del at e ⊢; split at e
  · cases e
  · rename_i h; rw [if_neg h]; exact l _ _ e
theorem del_set {H : AH} {f : Addr} {o : AO} : (H.set f o).del f = H.del f := by
  funext c; unfold AH.del AH.set; split
  · rfl
  · rfl
theorem del_of {H : AH} {f c : Addr} {o : AO} (h : c ≠ f) (e : H c = some o) : H.del f c = some o := (del_ne h).trans e
theorem le_del {H H' : AH} {f : Addr} (l : H.le H') (h : H f = none) : H.le (H'.del f) := fun c o e => del_of (ne_ns e h) (l _ _ e)
theorem le_ch {A : Addr → Prop} {H H' H'' : AH} (l : H.le H') (k : Ch A H' H'') (h : ∀ c, A c → H c = none) : H.le H'' := fun c o e => k c o (fun a => by rw [h c a] at e; cases e) (l _ _ e)
theorem le_kb {b b' : Addr} {H H' H'' : AH} (l : H.le H') (k : KB b b' H' H'') (h1 : H b = none) (h2 : H b' = none) : H.le H'' := fun c o e => k c o (ne_ns e h1) (ne_ns e h2) (l _ _ e)
mutual
theorem Rd.le {H H' : AH} (l : H.le H') : ∀ {t : Ty} {v : AV} {d : t.den}, Rd H t v d → Rd H' t v d
  | .I, v, d, h => by simp only [Rd] at h ⊢; exact h
  | .B, v, d, h => by simp only [Rd] at h ⊢; exact h
  | .Y, v, d, h => by simp only [Rd] at h ⊢; exact h
  | .L t, v, d, h => by
    simp only [Rd] at h ⊢
    obtain ⟨a, vs, e, h1, h2⟩ := h
    exact ⟨a, vs, e, l _ _ h1, All2.mono (fun a b x => Rd.le l (t := t) x) h2⟩
  | .T t, v, d, h => by
    simp only [Rd] at h ⊢
    obtain ⟨a, vs, e, h1, h2⟩ := h
    exact ⟨a, vs, e, l _ _ h1, All2.mono (fun a b x => Rd.le l (t := t) x) h2⟩
  | .nil, v, d, h => by simp only [Rd] at h
  | .cons a r, v, d, h => by simp only [Rd] at h
  | .tupOf r, v, d, h => by
    simp only [Rd] at h ⊢
    obtain ⟨a, vs, e, h1, h2⟩ := h
    exact ⟨a, vs, e, l _ _ h1, RdR.le l (t := r) h2⟩
  | .lstOf r, v, d, h => by
    simp only [Rd] at h ⊢
    obtain ⟨a, vs, e, h1, h2⟩ := h
    exact ⟨a, vs, e, l _ _ h1, RdR.le l (t := r) h2⟩
theorem RdR.le {H H' : AH} (l : H.le H') : ∀ {t : Ty} {v : List AV} {d : t.den}, RdR H t v d → RdR H' t v d
  | .nil, v, d, h => by simp only [RdR] at h ⊢; exact h
  | .cons a r, v, d, h => by
    simp only [RdR] at h ⊢
    obtain ⟨x, us, e, h1, h2⟩ := h
    exact ⟨x, us, e, Rd.le l (t := a) h1, RdR.le l (t := r) h2⟩
  | .I, v, d, h => by simp only [RdR] at h
  | .B, v, d, h => by simp only [RdR] at h
  | .Y, v, d, h => by simp only [RdR] at h
  | .L t, v, d, h => by simp only [RdR] at h
  | .T t, v, d, h => by simp only [RdR] at h
  | .tupOf r, v, d, h => by simp only [RdR] at h
  | .lstOf r, v, d, h => by simp only [RdR] at h
end
theorem rd_ints {H : AH} {l : Addr} {is : List Int} (h : H l = some (.list (is.map .int))) : Rd H (.L .I) (.ref l) is := by
  simp only [Rd]
  exact ⟨l, _, rfl, h, All2.map (R := fun (v : AV) (d : Int) => v = AV.int d) (f := AV.int) (fun b => rfl) is⟩
theorem rd_I {H : AH} {i : Int} : Rd H .I (.int i) i := by simp only [Rd]
theorem rd_Y {H : AH} {b : Array UInt8} : Rd H .Y (.byt b) b := by simp only [Rd]
theorem rd_L {H : AH} {t : Ty} {l : Addr} {vs : List AV} {d : List t.den} (h : H l = some (.list vs)) (k : All2 (Rd H t) vs d) : Rd H (.L t) (.ref l) d := by simp only [Rd]; exact ⟨l, vs, rfl, h, k⟩
theorem rd_T {H : AH} {t : Ty} {l : Addr} {vs : List AV} {d : List t.den} (h : H l = some (.tup vs)) (k : All2 (Rd H t) vs d) : Rd H (.T t) (.ref l) d := by simp only [Rd]; exact ⟨l, vs, rfl, h, k⟩
theorem rd_lst {H : AH} {r : Ty} {l : Addr} {vs : List AV} {d : r.den} (h : H l = some (.list vs)) (k : RdR H r vs d) : Rd H (.lstOf r) (.ref l) d := by simp only [Rd]; exact ⟨l, vs, rfl, h, k⟩
theorem rd_tup {H : AH} {r : Ty} {l : Addr} {vs : List AV} {d : r.den} (h : H l = some (.tup vs)) (k : RdR H r vs d) : Rd H (.tupOf r) (.ref l) d := by simp only [Rd]; exact ⟨l, vs, rfl, h, k⟩
theorem rdr_c {H : AH} {a r : Ty} {v : AV} {us : List AV} {d : a.den} {e : r.den} (h : Rd H a v d) (k : RdR H r us e) : RdR H (.cons a r) (v :: us) (d, e) := by simp only [RdR]; exact ⟨v, us, rfl, h, k⟩
theorem rdr_n {H : AH} {d : Unit} : RdR H .nil [] d := by simp only [RdR]
abbrev NmTy : Ty := .tupOf (.cons .Y (.cons .I (.cons .I .nil)))
abbrev NmD := Array UInt8 × Nat × Nat
abbrev nmD (d : NmD) : NmTy.den := ((d.1, (((d.2.1 : Nat) : Int), (((d.2.2 : Nat) : Int), ()))) : Array UInt8 × Int × Int × Unit)
abbrev TailTy : Ty := .cons (.L .I) (.cons .I (.cons .I (.cons .Y .nil)))
abbrev HeldTy : Ty := .cons (.L .I) (.cons (.L .I) (.cons (.L NmTy) TailTy))
/-- what is told of a function -/
noncomputable def held (code lines : List Int) (ld : List NmD) (ks : List Int) (u m : Int) (s : Array UInt8) : HeldTy.den := (code, lines, ld.map nmD, ks, u, m, s, ())
abbrev vdD (d : NmD) : VD := (.byt d.1, .int (d.2.1 : Nat), .int (d.2.2 : Nat))
section
variable {G : Gx} {n : Nat} {sc : Scope} {ρ : Loc} {H : AH} {Q : AV → AH → Prop} {k : KA} (W : WW G) (WC : WK G k)
include W WC
theorem law_held_nc {x : Addr} {P : PV} {ld : List NmD} {ks : List Int} {u m : Int} {s : Array UInt8} (hP : PAt k H x P) (hv : All2 (VAt k H) P.locs (ld.map vdD)) (z1 : P.code.length ≤ 1000) (z2 : P.lines.length ≤ 1000) (z4 : P.locs.length ≤ 1000)
    (hk : P.consts = ks.map .int) (zk : ks.length ≤ 1000) (hu : P.upc = .int u) (hm : P.mx = .int m) (hs : P.src = .byt s)
    (q : ∀ f H', H.le H' → Rd H' (.lstOf HeldTy) (.ref f) (held P.code P.lines ld ks u m s) → Q (.ref f) H') : NC G (n + 2) "_law_held" [.ref x] Q H := by
  refine NC.def W 70 rfl rfl rfl ?_
  wtm_at "m_open"
  wtm_at "m_run"
  refine SX.comp rfl (fun _ _ => rfl) (fun _ => rfl) rfl rfl (IT.list ?_)
  wtm_at "m_run"
  refine ⟨_, _, rfl, hP.locs, ?fit, fun i ys Hc => H.le Hc ∧ All2 (Rd Hc NmTy) ys ((ld.map nmD).take i) ∧ ys.length = i, ⟨.refl _, trivial, rfl⟩, ?turn, ?fin⟩
  case fit => rfl
  case turn =>
    rintro i ys Hc hi ⟨lc, hy, hlen⟩
    have hi : i < P.locs.length := hi
    refine ⟨lc _ _ hP.locs, by (first | lia | omega), ?_⟩
    intro v ev
    obtain ⟨d', ed, hd⟩ := hv.at ev
    rw [List.getElem?_map] at ed
    obtain ⟨d, ed', rfl⟩ := Option.map_eq_some_iff.mp ed
    have hvd := hd.le lc
    refine AS.name rfl ?_
    refine ⟨Loc.le_set rfl, ?_⟩
    refine IFS.nil (ife_t ?_)
    wtm_at "m_run"
    refine ⟨few (by simp), fun t ht => ?_⟩
    have lt := le_set (o := .tup [.byt d.1, .int (d.2.1 : Nat), .int (d.2.2 : Nat)]) ht
    have et : (Hc.set t (.tup [.byt d.1, .int (d.2.1 : Nat), .int (d.2.2 : Nat)])) t = some (.tup [.byt d.1, .int (d.2.1 : Nat), .int (d.2.2 : Nat)]) := AH.set_self _ _ _
    refine ⟨_, .refl _, lc.trans lt, ?_, by simp [hlen]⟩
    rw [take_snoc (show (ld.map nmD)[i]? = some (nmD d) by rw [List.getElem?_map, ed']; rfl)]
    refine All2.snoc ?_ (All2.mono (fun a b x => Rd.le lt x) hy)
    exact rd_tup et (rdr_c rd_Y (rdr_c rd_I (rdr_c rd_I rdr_n)))
  rintro ys H1 ⟨l1, hy, hlen⟩
  refine ⟨l1 _ _ hP.locs, fun a ha => ?_⟩
  wtm_at "m_w1"
  refine gen_alloc ha fun H2 l2 f2 => ?_
  have hys : All2 (Rd H2 NmTy) ys (ld.map nmD) := by
    have h1 : (Src.list P.lv P.locs).len = (ld.map nmD).length := by rw [List.length_map]; exact hv.length.trans (List.length_map ..)
    rw [h1, List.take_length] at hy
    exact All2.mono (fun a b x => Rd.le l2 x) hy
  have hP2 := hP.le (l1.trans l2)
  wtm_at "m_run"
  refine ⟨_, _, rfl, hP2.code, by rw [List.length_map]; (first | lia | omega), fun a3 ha3 => ?_⟩
  refine gen_alloc ha3 fun H3 l3 f3 => ?_
  have hP3 := hP2.le l3
  wtm_at "m_run"
  refine ⟨_, _, rfl, hP3.lines, by rw [List.length_map]; (first | lia | omega), fun a4 ha4 => ?_⟩
  refine gen_alloc ha4 fun H4 l4 f4 => ?_
  have hP4 := hP3.le l4
  wtm_at "m_run"
  refine ⟨_, _, rfl, hP4.consts, by rw [hk, List.length_map]; (first | lia | omega), fun a5 ha5 => ?_⟩
  rw [hk]
  refine gen_alloc ha5 fun H5 l5 f5 => ?_
  have hP5 := hP4.le l5
  wtm_at "m_run"
  rw [hu, hm, hs]
  refine ⟨few (by simp), fun f hf => .ret ?_⟩
  have lF := le_set (o := .list [.ref a3, .ref a4, .ref a, .ref a5, .int u, .int m, .byt s]) hf
  refine q f _ ((l1.trans l2).trans (((l3.trans l4).trans l5).trans lF)) ?_
  have c3 := (l4.trans (l5.trans lF)) _ _ f3
  have c4 := (l5.trans lF) _ _ f4
  have c5 := lF _ _ f5
  have ca := ((l3.trans l4).trans (l5.trans lF)) _ _ f2
  have cys := All2.mono (fun a b x => Rd.le ((l3.trans l4).trans (l5.trans lF)) x) hys
  exact rd_lst (AH.set_self _ _ _) (rdr_c (rd_ints c3) (rdr_c (rd_ints c4) (rdr_c (rd_L ca cys) (rdr_c (rd_ints c5) (rdr_c rd_I (rdr_c rd_I (rdr_c rd_Y rdr_n)))))))
end

abbrev TrTy : Ty := .tupOf (.cons (.T .I) (.cons .I (.cons (.L .I) .nil)))
noncomputable def trD (x : List Int × Int × List Int) : TrTy.den := (x.1, x.2.1, x.2.2, ())
theorem rd_tints {H : AH} {l : Addr} {is : List Int} (h : H l = some (.tup (is.map .int))) : Rd H (.T .I) (.ref l) is := by
  simp only [Rd]
  exact ⟨l, _, rfl, h, All2.map (R := fun (v : AV) (d : Int) => v = AV.int d) (f := AV.int) (fun b => rfl) is⟩
inductive J34_0 (H : AH) (code : List Int) (lines : List Int) (bits : List Nat) (f : Addr) (ρ' : Loc) (H' : AH) : Prop
  | mk : (ρ' "found" = some (.ref f)) → (H.le H') → ∀ vs, (H' f = some (.list vs)) → (All2 (Rd (H'.del f) TrTy) vs ((trc code lines bits 0).map trD)) → J34_0 H code lines bits f ρ' H'
inductive J34_1 (H : AH) (lc : Addr) (ll : Addr) (code : List Int) (lines : List Int) (bits : List Nat) (f : Addr) (i : Nat) (ρ' : Loc) (Hc : AH) : Prop
  | mk : (ρ' "code" = some (.ref lc)) → (ρ' "lines" = some (.ref ll)) → (ρ' "found" = some (.ref f)) → (H.le (Hc.del f)) → ∀ (vs : List AV) (acc : List (List Int × Int × List Int)) (s : Nat), (ρ' "at" = some (.int s)) → (Hc f = some (.list vs)) → (vs.length = i) → (i ≤ bits.length) → (All2 (Rd (Hc.del f) TrTy) vs (acc.map trD)) → (Reach code s) → (acc ++ trc code lines (bits.drop i) s = trc code lines bits 0) → J34_1 H lc ll code lines bits f i ρ' Hc
inductive J34_2 (lc : Addr) (ll : Addr) (f : Addr) (Hc : AH) (s : Nat) (b : Nat) (w : Int) (ρ' : Loc) (H' : AH) : Prop
  | mk : (ρ' "code" = some (.ref lc)) → (ρ' "lines" = some (.ref ll)) → (ρ' "found" = some (.ref f)) → (ρ' "at" = some (.int s)) → (ρ' "bit" = some (.int b)) → (ρ' "op" = some (.int (w % 64))) → (ρ' "a" = some (.int (w / 64 % 256))) → (ρ' "b" = some (.int (w / 8388608 % 512))) → (ρ' "c" = some (.int (w / 16384 % 512))) → (Hc.le H') → J34_2 lc ll f Hc s b w ρ' H'
inductive J34_3 (lc : Addr) (ll : Addr) (f : Addr) (s : Nat) (b : Nat) (w : Int) (Hd : AH) (ρ' : Loc) (H' : AH) : Prop
  | mk : (ρ' "code" = some (.ref lc)) → (ρ' "lines" = some (.ref ll)) → (ρ' "found" = some (.ref f)) → (ρ' "at" = some (.int s)) → (ρ' "bit" = some (.int b)) → (Hd.le H') → ∀ tt, (ρ' "told_word" = some (.ref tt)) → (Hd tt = none) → (H' tt = some (.tup ((told w).map .int))) → J34_3 lc ll f s b w Hd ρ' H'
section
variable {G : Gx} {n : Nat} {sc : Scope} {ρ : Loc} {H : AH} {Q : AV → AH → Prop} {k : KA} (W : WW G) (WC : WK G k)
include W
theorem law_trace_nc {lc ll lb : Addr} {code lines : List Int} {bits : List Nat} (hc : H lc = some (.list (code.map .int))) (hl : H ll = some (.list (lines.map .int))) (hb : H lb = some (.list (natL bits))) (wf : WF code) (hln : lines.length = code.length)
    (hz : code.length ≤ 1000) (hzb : bits.length ≤ 1000)
    (q : ∀ f H', H.le H' → Rd H' (.L TrTy) (.ref f) ((trc code lines bits 0).map trD) → Q (.ref f) H') : NC G (n + 4) "_law_trace" [.ref lc, .ref ll, .ref lb] Q H := by
  refine NC.def W 69 rfl rfl rfl ?_
  wtm_at "m_open"
  wtm_at "m_run"
  refine ⟨few (by simp), fun f hf => ?_⟩
  wtm_at "m_run"
  refine ⟨_, _, rfl, ?_⟩
  have lf := le_set (o := .list []) hf
  have ef : (H.set f (.list [])) f = some (.list []) := AH.set_self _ _ _
  have dfl : H.le ((H.set f (.list [])).del f) := le_del lf hf
  wtm_at "m_w1"
  generalize H.set f (.list []) = H0 at lf ef dfl ⊢
  refine SX.cutJ (J34_0 H code lines bits f) ?_ ?_
  · refine SX.for (fun _ _ => rfl) (IT.list ?_)
    wtm_at "m_run"
    have hb0 := lf _ _ hb
    refine ⟨_, _, rfl, hb0, rfl, (J34_1 H lc ll code lines bits f),
      ⟨rfl, rfl, rfl, dfl, [], [], 0, rfl, ef, rfl, Nat.zero_le _, trivial, .zero, rfl⟩, ?_, ?_⟩
    · rintro i ρ' Hc hi ⟨g1, g2, g3, lc', vs, acc, s, g4, efc, lv, hib, hrd, hr, hacc⟩
      have hi : i < bits.length := by have : i < (natL bits).length := hi; simpa [natL] using this
      have lcH := lc'.trans (del_le Hc f)
      refine ⟨lcH _ _ hb, fun v ev => ?_⟩
      obtain ⟨b, hbi⟩ : ∃ b, bits[i]? = some b := ⟨_, List.getElem?_eq_getElem hi⟩
      have : v = .int b := by unfold natL at ev; rw [List.getElem?_map, hbi] at ev; exact (Option.some.inj ev).symm
      subst this
      obtain ⟨w, hw1, hle, hnn⟩ := wf.in_ s hr
      have hg : code.getD s 0 = w := by rw [List.getD_eq_getElem?_getD, hw1]; rfl
      have hwz := wsz_pos w
      have hcc := lcH _ _ hc
      have hlc := lcH _ _ hl
      have hln1 : lines[s]? = some (lines.getD s 0) := by
        rw [List.getD_eq_getElem?_getD, List.getElem?_eq_getElem (show s < lines.length by (first | lia | omega))]; rfl
      have hdrop : bits.drop i = b :: bits.drop (i + 1) := by
        rw [List.drop_eq_getElem_cons hi]; congr 1
        exact (List.getElem?_eq_some_iff.mp hbi).2
      refine AS.name rfl ?_
      refine SXs.cons (SX.cutJ (J34_2 lc ll f Hc s b w) ?_ ?_)
      · wtm_at "m_run"
        refine law_parts_nc W fun t1 ht1 => ?_
        have l1 := le_set (o := .tup [.int (w % 64), .int (w / 64 % 256), .int (w / 8388608 % 512), .int (w / 16384 % 512)]) ht1
        wtm_at "m_run"
        exact ⟨rfl, g1, g2, g3, g4, rfl, rfl, rfl, rfl, rfl, l1⟩
      clear g1 g2 g3 g4
      rintro ρ1 Hd ⟨g1, g2, g3, g4, g5, g6, g7, g8, g9, ld⟩
      refine SXs.cons (SX.cutJ (J34_3 lc ll f s b w Hd) ?_ ?_)
      · wtm_at "m_run"
        intro aj haj
        refine CO.inTop haj ?_
        wtm_at "m_run"
        refine ife_b (fun hj => ?_) fun hj => ?_
        · wtm_at "m_run"
          refine ⟨few (by simp), fun tt htt => ?_⟩
          wtm_at "m_run"
          refine ⟨rfl, g1, g2, g3, g4, g5, le_set htt, tt, rfl, htt, ?_⟩
          rw [AH.set_self]; unfold told; rw [if_pos hj]; rfl
        · have hj' : ¬ ([22, 31, 32] : List Int).contains (w % 64) = true := by rw [hj]; exact Bool.false_ne_true
          wtm_at "m_run"
          refine ife_eq (fun h2 => ?_) fun h2 => ?_
          · wtm_at "m_run"
            refine ⟨few (by simp), fun tt htt => ?_⟩
            wtm_at "m_run"
            refine ⟨rfl, g1, g2, g3, g4, g5, le_set htt, tt, rfl, htt, ?_⟩
            rw [AH.set_self]; unfold told; rw [if_neg hj', if_pos h2]; rfl
          · wtm_at "m_run"
            refine ⟨few (by simp), fun tt htt => ?_⟩
            wtm_at "m_run"
            refine ⟨rfl, g1, g2, g3, g4, g5, le_set htt, tt, rfl, htt, ?_⟩
            rw [AH.set_self]; unfold told; rw [if_neg hj', if_neg h2]; rfl
      clear g1 g2 g3 g4 g5 g6 g7 g8 g9
      rintro ρ2 He ⟨g1, g2, g3, g4, g5, le, tt, g6, htt, ett⟩
      have l2 := ld.trans le
      have hce := l2 _ _ hcc
      have hle' := l2 _ _ hlc
      have efe := l2 _ _ efc
      wtm_at "m_run"
      refine ⟨_, _, rfl, efe, ?_⟩
      wtm_at "m_run"
      refine law_size_nc W ?_
      wtm_at "m_run"
      have hpick : pickL (code.map AV.int) (some ((s : Int) + 1)) (some ((s : Int) + (wsz w : Nat))) = ((code.drop (s + 1)).take (wsz w - 1)).map .int := by
        rw [show ((s : Int) + 1) = ((s + 1 : Nat) : Int) by (first | lia | omega), show ((s : Int) + (wsz w : Nat)) = ((s + wsz w : Nat) : Int) by (first | lia | omega), pickL_nat _ (by (first | lia | omega)) (by rw [List.length_map]; exact hle), show s + wsz w - (s + 1) = wsz w - 1 by (first | lia | omega), ← List.map_drop, ← List.map_take]
      refine ⟨_, _, rfl, hce, by rw [List.length_map, sizeLine_eq]; (first | lia | omega), fun r1 hr1 => ?_⟩
      rw [hpick]
      refine gen_alloc hr1 fun Hg lg eg => ?_
      wtm_at "m_run"
      refine ⟨few (by simp), fun r2 hr2 => ?_⟩
      have efg := lg _ _ efe
      have lh := le_set (o := .tup [.ref tt, .int (lines.getD s 0), .ref r1]) hr2
      have eh : (Hg.set r2 (.tup [.ref tt, .int (lines.getD s 0), .ref r1])) r2 = some (.tup [.ref tt, .int (lines.getD s 0), .ref r1]) := AH.set_self _ _ _
      have n1 : tt ≠ f := ne_sn htt (ld _ _ efc)
      have n2 : r1 ≠ f := ne_sn hr1 efe
      have n3 : r2 ≠ f := ne_sn hr2 efg
      generalize Hg.set r2 (.tup [.ref tt, .int (lines.getD s 0), .ref r1]) = Hh at lh eh ⊢
      have efh := lh _ _ efg
      have lch := l2.trans (lg.trans lh)
      have hent : Rd (Hh.del f) TrTy (.ref r2) (trD (told w, lines.getD s 0, (code.drop (s + 1)).take (wsz w - 1))) :=
        rd_tup (del_of n3 eh) (rdr_c (rd_tints (del_of n1 ((lg.trans lh) _ _ ett))) (rdr_c rd_I (rdr_c (rd_ints (del_of n2 (lh _ _ eg))) rdr_n)))
      refine ⟨_, efh, by rw [sizeLine_eq]; (first | lia | omega), rfl, ?_⟩
      have hent2 : All2 (Rd ((Hh.set f (.list (vs ++ [.ref r2]))).del f) TrTy) (vs ++ [.ref r2]) ((acc ++ [(told w, lines.getD s 0, (code.drop (s + 1)).take (wsz w - 1))]).map trD) := by
        rw [del_set, List.map_append]
        exact All2.snoc hent (All2.mono (fun a b x => Rd.le (del_mono lch) x) hrd)
      have efi : (Hh.set f (.list (vs ++ [.ref r2]))) f = some (.list (vs ++ [.ref r2])) := AH.set_self _ _ _
      have lci : H.le ((Hh.set f (.list (vs ++ [.ref r2]))).del f) := by rw [del_set]; exact lc'.trans (del_mono lch)
      generalize Hh.set f (.list (vs ++ [.ref r2])) = Hi at hent2 efi lci ⊢
      have lciH := lci.trans (del_le Hi f)
      have hci := lciH _ _ hc
      wtm_at "m_run"
      refine law_next_nc W hci hw1 (by (first | lia | omega)) fun r3 hr3 => ?_
      wtm_at "m_w1"
      wtm_at "m_w1"
      refine gen_alloc hr3 fun Hj lj ej => ?_
      have n4 : r3 ≠ f := ne_sn hr3 efi
      have efj := lj _ _ efi
      wtm_at "m_run"
      have hent3 : All2 (Rd (Hj.del f) TrTy) (vs ++ [.ref r2]) ((acc ++ [(told w, lines.getD s 0, (code.drop (s + 1)).take (wsz w - 1))]).map trD) := All2.mono (fun a b x => Rd.le (del_mono lj) x) hent2
      have lcj := lci.trans (del_mono lj)
      refine ⟨few (by simp), fun a4 ha4 => CO.eqL (t := .I) (da := nexts s w) (db := []) (by decide) (rd_ints (set_old ha4 ej)) (rd_ints (is := []) (AH.set_self _ _ _)) ?_⟩
      have hstep : trc code lines (bits.drop i) s = (told w, lines.getD s 0, (code.drop (s + 1)).take (wsz w - 1)) :: (if nexts s w = [] then [] else trc code lines (bits.drop (i + 1)) ((nexts s w).getD (b % (nexts s w).length) 0).toNat) := by
        rw [hdrop, trc, hg]
      rw [hstep] at hacc
      have hnl := nexts_length s w
      wtm_at "m_run"
      refine ife_b (fun he => ?_) fun he => ?_
      · have he := (Ty.beq_eq _ _ _).mp he
        have he : nexts s w = [] := he
        rw [he, if_pos rfl] at hacc
        refine SXs.sub (le_set ha4) ?_
        wtm_at "m_run"
        exact ⟨rfl, g3, lcj.trans (del_le Hj f), _, efj, by rw [← hacc]; exact hent3⟩
      · have he : nexts s w ≠ [] := fun e => by
          have := (Ty.beq_eq (.L .I) (nexts s w) []).mpr e
          rw [this] at he; cases he
        rw [if_neg he] at hacc
        refine SXs.sub (le_set ha4) ?_
        have hpos := List.length_pos_iff.mpr he
        have hlt : b % (nexts s w).length < (nexts s w).length := Nat.mod_lt _ hpos
        have hmod : ((b : Int).fmod ((nexts s w).length : Nat)) = ((b % (nexts s w).length : Nat) : Int) := by
          rw [Int.fmod_eq_emod_of_nonneg _ (by (first | lia | omega))]; exact (Int.natCast_emod _ _).symm
        have hgn : (nexts s w)[b % (nexts s w).length]? = some ((nexts s w).getD (b % (nexts s w).length) 0) := by
          rw [List.getD_eq_getElem?_getD, List.getElem?_eq_getElem hlt]; rfl
        have hmem := List.mem_of_getElem? hgn
        wtm_at "m_run"
        refine BO.mod (by (first | lia | omega)) ?_
        rw [hmod]
        wtm_at "m_run"
        have hnn' := hnn _ hmem
        have hr' : Reach code ((nexts s w).getD (b % (nexts s w).length) 0).toNat := .step hr hw1 (by rw [Int.toNat_of_nonneg hnn']; exact hmem)
        exact ⟨Hj, .refl _, g1, g2, g3, lcj, _, _, ((nexts s w).getD (b % (nexts s w).length) 0).toNat, by rw [LocSet_self, Int.toNat_of_nonneg hnn'], efj, by simp [lv], by (first | lia | omega), hent3, hr', by rw [List.append_assoc]; exact hacc⟩
    · rintro ρ' Hc ⟨g1, g2, g3, lc', vs, acc, s, g4, efc, lv, hib, hrd, hr, hacc⟩
      have el : (Src.list lb (natL bits)).len = bits.length := by show (natL bits).length = _; simp [natL]
      rw [el, List.drop_length] at hacc
      have hacc : acc = trc code lines bits 0 := by rw [← hacc]; simp [trc]
      have lcH := lc'.trans (del_le Hc f)
      refine ⟨lcH _ _ hb, rfl, g3, lcH, vs, efc, by rw [← hacc]; exact hrd⟩
  · rintro ρ' H' ⟨g3, lH, vs, ef', hrd⟩
    wtm_at "m_run"
    exact .ret (q f H' lH (rd_L ef' (All2.mono (fun a b x => Rd.le (del_le H' f) x) hrd)))
end

noncomputable abbrev nmP (fl : List Bool) (d : NmD) : NmD := (d.1, pl fl d.2.1, pl fl d.2.2)
theorem fin_map {code : List Int} : ((flagsOf code).map AV.bool).set (((flagsOf code).map AV.bool).length - 1) (.bool true) = (fin code).map .bool := by
  rw [List.length_map, flagsOf_length]; unfold fin; rw [List.map_set]
theorem CO.neR0 {G : Gx} {n : Nat} {H : AH} {Q : AV → AH → Prop} {t : Ty} {a b : AV} {d : t.den} (ht : t.dep < 20) (ha : Rd H (.lstOf t) a d) (hb : Rd H (.lstOf t) b d) (h : Q (.bool false) H) : CO G n .NotEq a b Q H :=
  CO.neR (t := t) ht ha hb (by rw [(Ty.beq_eq t d d).mpr rfl]; exact h)
theorem CO.neL0 {G : Gx} {n : Nat} {H : AH} {Q : AV → AH → Prop} {t : Ty} {a b : AV} {d : List t.den} (ht : t.dep < 20) (ha : Rd H (.L t) a d) (hb : Rd H (.L t) b d) (h : Q (.bool false) H) : CO G n .NotEq a b Q H :=
  CO.neL (t := t) ht ha hb (by rw [(Ty.beq_eq (.L t) d d).mpr rfl]; exact h)
theorem rd_lst_inv {H : AH} {r : Ty} {l : Addr} {d : r.den} (h : Rd H (.lstOf r) (.ref l) d) : ∃ vs, H l = some (.list vs) ∧ RdR H r vs d := by
  simp only [Rd] at h
  obtain ⟨l', vs, e, h1, h2⟩ := h
  cases e; exact ⟨vs, h1, h2⟩
theorem rdr_c_inv {H : AH} {a r : Ty} {vs : List AV} {d : a.den × r.den} (h : RdR H (.cons a r) vs d) : ∃ v us, vs = v :: us ∧ Rd H a v d.1 ∧ RdR H r us d.2 := by
  simp only [RdR] at h; exact h
theorem held_inv {H : AH} {f : Addr} {d : HeldTy.den} (h : Rd H (.lstOf HeldTy) (.ref f) d) : ∃ vs v2, H f = some (.list vs) ∧ vs.length = 7 ∧ RdR H TailTy (pickL vs (some 3) none) d.2.2.2 ∧ vs[2]? = some v2 ∧ Rd H (.L NmTy) v2 d.2.2.1 := by
  obtain ⟨vs, h0, h1⟩ := rd_lst_inv h
  obtain ⟨v0, u1, rfl, r0, h2⟩ := rdr_c_inv h1
  obtain ⟨v1, u2, rfl, r1, h3⟩ := rdr_c_inv h2
  obtain ⟨v2, u3, rfl, r2, h4⟩ := rdr_c_inv h3
  have h4' := h4
  obtain ⟨v3, u4, rfl, r3, h5⟩ := rdr_c_inv h4
  obtain ⟨v4, u5, rfl, r4, h6⟩ := rdr_c_inv h5
  obtain ⟨v5, u6, rfl, r5, h7⟩ := rdr_c_inv h6
  obtain ⟨v6, u7, rfl, r6, h8⟩ := rdr_c_inv h7
  have : u7 = [] := by simp only [RdR] at h8; exact h8
  subst this
  refine ⟨_, v2, h0, rfl, ?_, rfl, r2⟩
  have e : pickL (v0 :: v1 :: v2 :: v3 :: v4 :: v5 :: v6 :: []) (some 3) none = [v3, v4, v5, v6] := by
    have := pickL_from (v0 :: v1 :: v2 :: v3 :: v4 :: v5 :: v6 :: []) (a := 3) (by simp)
    exact this
  rw [e]; exact h4'
theorem nm_inv {H : AH} {v : AV} {d : NmD} (h : Rd H NmTy v (nmD d)) : ∃ t, v = .ref t ∧ H t = some (.tup [.byt d.1, .int (d.2.1 : Nat), .int (d.2.2 : Nat)]) := by
  simp only [Rd] at h
  obtain ⟨l, vs, rfl, h0, h1⟩ := h
  obtain ⟨v0, u1, rfl, r0, h2⟩ := rdr_c_inv h1
  obtain ⟨v1, u2, rfl, r1, h3⟩ := rdr_c_inv h2
  obtain ⟨v2, u3, rfl, r2, h4⟩ := rdr_c_inv h3
  have : u3 = [] := by simp only [RdR] at h4; exact h4
  subst this
  simp only [Rd] at r0 r1 r2
  subst r0 r1 r2
  exact ⟨l, rfl, h0⟩
theorem SX.assignD {G : Gx} {n : Nat} {sc : Scope} {ρ : Loc} {H : AH} {Q : AF → Loc → AH → Prop} {t value : Expr} {p : Pos} (hs : ∀ D : Dyn, swapsWithSole [t] value p.line (D.env sc) = pure false) (hw : ∀ D : Dyn, swappedStores [t] value (D.env sc) = pure none) (he : ∀ env, (assignEach [t] env).map (·.2) = [assign t env])
    (h : EV G n sc value (fun v H₁ => AS G n true sc t v (fun ρ' H' => Q .next ρ' H') ρ H₁) ρ H) : SX G n sc (.Assign [t] value p) Q ρ H := by
  intro A P D s r f S
  refine wpAny_Assign_stores (wp_mono (h A P D s r S) fun x s₁ ⟨v, H₁, hv, S₁, h₁⟩ => ?_) (hs _) (hw _)
  rw [he]
  exact wp_mono (h₁ A P D s₁ x r (fun _ => f) S₁ hv) fun _ s₂ ⟨ρ', H', S₂, q⟩ => ⟨.next, ρ', H', .next, S₂, q⟩
inductive J35_0 (H : AH) (b : Addr) (o : Addr) (el : Addr) (nw_ : Addr) (P : PV) (ρ' : Loc) (H' : AH) : Prop
  | mk : (ρ' "box" = some (.ref b)) → (ρ' "old" = some (.ref o)) → (ρ' "elder" = some (.ref el)) → (ρ' "new" = some (.ref nw_)) → ∀ li, (ρ' "live" = some (.ref li)) → (H li = none) → (H' = H.set li (.list ((flagsOf P.code).map .bool))) → J35_0 H b o el nw_ P ρ' H'
inductive J35_1 (H : AH) (b : Addr) (o : Addr) (el : Addr) (nw_ : Addr) (P : PV) (li : Addr) (ρ' : Loc) (H' : AH) : Prop
  | mk : (ρ' "box" = some (.ref b)) → (ρ' "old" = some (.ref o)) → (ρ' "elder" = some (.ref el)) → (ρ' "new" = some (.ref nw_)) → (ρ' "live" = some (.ref li)) → (H.le H') → (H' li = some (.list ((fin P.code).map .bool))) → J35_1 H b o el nw_ P li ρ' H'
inductive J35_2 (b : Addr) (o : Addr) (el : Addr) (nw_ : Addr) (P : PV) (li : Addr) (H2 : AH) (ρ' : Loc) (H' : AH) : Prop
  | mk : (ρ' "box" = some (.ref b)) → (ρ' "old" = some (.ref o)) → (ρ' "elder" = some (.ref el)) → (ρ' "new" = some (.ref nw_)) → (ρ' "live" = some (.ref li)) → (H2.le H') → ∀ pa, (ρ' "places" = some (.ref pa)) → (H' pa = some (.list (plL (fin P.code) (P.code.length + 1)))) → J35_2 b o el nw_ P li H2 ρ' H'
inductive J35_3 (H : AH) (b : Addr) (o : Addr) (el : Addr) (nw_ : Addr) (P : PV) (pa : Addr) (ρ' : Loc) (H' : AH) : Prop
  | mk : (ρ' "box" = some (.ref b)) → (ρ' "old" = some (.ref o)) → (ρ' "elder" = some (.ref el)) → (ρ' "new" = some (.ref nw_)) → (ρ' "places" = some (.ref pa)) → (H.le H') → (H' pa = some (.list (plL (fin P.code) (P.code.length + 1)))) → ∀ ka, (ρ' "kept" = some (.ref ka)) → (H' ka = some (.list (natL (keptI (fin P.code) P.code.length)))) → J35_3 H b o el nw_ P pa ρ' H'
inductive J35_4 (b : Addr) (o : Addr) (el : Addr) (nw_ : Addr) (pa : Addr) (H4 : AH) (ka : Addr) (ρ' : Loc) (H' : AH) : Prop
  | mk : (ρ' "box" = some (.ref b)) → (ρ' "old" = some (.ref o)) → (ρ' "elder" = some (.ref el)) → (ρ' "new" = some (.ref nw_)) → (ρ' "places" = some (.ref pa)) → (ρ' "kept" = some (.ref ka)) → (H4.le H') → J35_4 b o el nw_ pa H4 ka ρ' H'
inductive J35_5 (b : Addr) (o : Addr) (el : Addr) (nw_ : Addr) (pa : Addr) (H5 : AH) (ρ' : Loc) (H' : AH) : Prop
  | mk : (ρ' "box" = some (.ref b)) → (ρ' "old" = some (.ref o)) → (ρ' "elder" = some (.ref el)) → (ρ' "new" = some (.ref nw_)) → (ρ' "places" = some (.ref pa)) → (H5.le H') → J35_5 b o el nw_ pa H5 ρ' H'
inductive J35_6 (b : Addr) (o : Addr) (el : Addr) (nw_ : Addr) (pa : Addr) (H6 : AH) (ρ' : Loc) (H' : AH) : Prop
  | mk : (ρ' "box" = some (.ref b)) → (ρ' "old" = some (.ref o)) → (ρ' "elder" = some (.ref el)) → (ρ' "new" = some (.ref nw_)) → (ρ' "places" = some (.ref pa)) → (H6.le H') → J35_6 b o el nw_ pa H6 ρ' H'
inductive J35_7 (b : Addr) (o : Addr) (nw_ : Addr) (H7 : AH) (ρ' : Loc) (H' : AH) : Prop
  | mk : (ρ' "box" = some (.ref b)) → (ρ' "old" = some (.ref o)) → (ρ' "new" = some (.ref nw_)) → (H7.le H') → J35_7 b o nw_ H7 ρ' H'
inductive J35_8 (b : Addr) (l : Addr) (Hs : AH) (ρ' : Loc) (H' : AH) : Prop
  | mk : (Hs.le H') → (Bx b l H') → J35_8 b l Hs ρ' H'
inductive J35_9 (b : Addr) (l : Addr) (o : Addr) (nw_ : Addr) (Hs : AH) (i : Nat) (ρ' : Loc) (Hc : AH) : Prop
  | mk : (ρ' "box" = some (.ref b)) → (ρ' "old" = some (.ref o)) → (ρ' "new" = some (.ref nw_)) → (Hs.le Hc) → (Bx b l Hc) → J35_9 b l o nw_ Hs i ρ' Hc
inductive J35_10 (b : Addr) (l : Addr) (o : Addr) (nw_ : Addr) (Hs : AH) (ρ' : Loc) (H' : AH) : Prop
  | mk : (ρ' "box" = some (.ref b)) → (ρ' "old" = some (.ref o)) → (ρ' "new" = some (.ref nw_)) → (Hs.le H') → (Bx b l H') → ∀ (bi : Addr) (bits : List Nat), (ρ' "bits" = some (.ref bi)) → (bits.length = 14) → (H' bi = some (.list (natL bits))) → J35_10 b l o nw_ Hs ρ' H'
section
variable {G : Gx} {n : Nat} {sc : Scope} {ρ : Loc} {H : AH} {Q : AV → AH → Prop} {k : KA} (W : WW G) (WC : WK G k)
include W WC
theorem law_right_nc {b l o el nw_ : Addr} {Hs : AH} {P P' : PV} {ld : List NmD} {ks : List Int} {u m : Int} {s : Array UInt8} (ls : Hs.le H) (sb : Hs b = none) (sl : Hs l = none) (B : Bx b l H)
    (hP : PAt k Hs o P) (hv : All2 (VAt k Hs) P.locs (ld.map vdD)) (g : Good P.code) (hln : P.lines.length = P.code.length) (hl : ∀ d ∈ ld, d.2.1 ≤ P.code.length ∧ d.2.2 ≤ P.code.length) (hzl : ld.length ≤ 900)
    (hk : P.consts = ks.map .int) (zk : ks.length ≤ 900) (hu : P.upc = .int u) (hm : P.mx = .int m) (hs : P.src = .byt s)
    (hel : Rd Hs (.lstOf HeldTy) (.ref el) (held P.code P.lines ld ks u m s))
    (hP' : PAt k Hs nw_ P') (hv' : All2 (VAt k Hs) P'.locs (ld.map fun d => vdD (nmP (fin P.code) d))) (hc' : P'.code = newcode P.code) (hln' : P'.lines = (keptI (fin P.code) P.code.length).map (fun i => P.lines.getD i 0))
    (hk' : P'.consts = P.consts) (hu' : P'.upc = P.upc) (hm' : P'.mx = P.mx) (hs' : P'.src = P.src)
    (q : ∀ H', Hs.le H' → Bx b l H' → Q (.bool true) H') : NC G (n + 7) "_law_right" [.ref b, .ref o, .ref el, .ref nw_] Q H := by
  refine NC.def W 71 rfl rfl rfl ?_
  have hlen := g.len
  have hcode := (hP.le ls).code
  have hPH := hP.le ls
  wtm_at "m_open"
  refine SXs.cons (SX.cutJ (J35_0 H b o el nw_ P) ?_ ?_)
  · wtm_at "m_run"
    refine law_live_nc W hcode (by (first | lia | omega)) g.wf fun li hli => ?_
    wtm_at "m_run"
    exact ⟨rfl, rfl, rfl, rfl, rfl, li, rfl, hli, rfl⟩
  rintro ρ1 _ ⟨g1, g2, g3, g4, li, g5, hli, rfl⟩
  refine SXs.cons (SX.cutJ (J35_1 H b o el nw_ P li) ?_ ?_)
  · wtm_at "m_run"
    refine SI.last (AH.set_self _ _ _) (by intro h; have := congrArg List.length h; simp [flagsOf_length] at this; rw [this] at hlen; simp at hlen) ?_
    rw [fin_map, set_set]
    wtm_at "m_run"
    exact ⟨rfl, g1, g2, g3, g4, g5, le_set hli, AH.set_self _ _ _⟩
  clear g1 g2 g3 g4 g5
  rintro ρ2 H2 ⟨g1, g2, g3, g4, g5, l2, eli⟩
  have fl := fin_length P.code
  refine SXs.cons (SX.cutJ (J35_2 b o el nw_ P li H2) ?_ ?_)
  · wtm_at "m_run"
    refine SX.assignD (fun _ => rfl) (fun _ => rfl) (fun _ => rfl) ?_
    refine EV.comp rfl (fun _ _ => rfl) (IT.range1W W rfl rfl rfl ?_)
    wtm_at "m_run"
    refine ⟨by (first | lia | omega), rfl, fun i ys Hc => H2.le Hc ∧ ys = plL (fin P.code) i ∧ i ≤ P.code.length + 1, ⟨.refl _, rfl, Nat.zero_le _⟩, ?_, ?_⟩
    · rintro i ys Hc hi ⟨lc, rfl, hib⟩
      have hi : i < P.code.length + 1 := by
        have : i < (((fin P.code).length : Int) + 1).toNat := hi
        (first | lia | omega)
      refine ⟨trivial, by rw [plL_length]; (first | lia | omega), ?_⟩
      refine AS.name rfl ?_
      refine ⟨Loc.le_set rfl, ?_⟩
      refine IFS.nil (ife_t ?_)
      rw [show ((0 : Int) + ((i : Nat) : Int)) = ((i : Nat) : Int) from Int.zero_add _]
      have elc := lc _ _ eli
      wtm_at "m_run"
      refine EV.comp rfl (fun _ _ => rfl) (IT.list ?_)
      wtm_at "m_run"
      refine ⟨_, _, rfl, elc, by rw [List.length_map, sizeLine_eq]; (first | lia | omega), fun r hr => ?_⟩
      have lr := le_set (o := .list (pickL ((fin P.code).map AV.bool) none (some ((i : Nat) : Int)))) hr
      have er : (Hc.set r (.list (pickL ((fin P.code).map AV.bool) none (some ((i : Nat) : Int))))) r = some (.list (((fin P.code).take i).map .bool)) := by rw [AH.set_self, pickL_to, List.map_take]
      generalize Hc.set r (.list (pickL ((fin P.code).map AV.bool) none (some ((i : Nat) : Int)))) = Hd at lr er ⊢
      refine ⟨_, _, rfl, er, rfl, fun j zs He => Hd.le He ∧ zs.length = (((fin P.code).take i).take j).count true, ⟨.refl _, by simp⟩, ?_, ?_⟩
      · rintro j zs He hj ⟨le, hzs⟩
        have hj : j < ((fin P.code).take i).length := by have : j < (((fin P.code).take i).map AV.bool).length := hj; simpa using this
        have hzb : zs.length ≤ 1001 := by
          rw [hzs]; refine Nat.le_trans List.count_le_length ?_
          rw [List.length_take, List.length_take]; (first | lia | omega)
        refine ⟨le _ _ er, by (first | lia | omega), fun v ev => ?_⟩
        obtain ⟨c, hc⟩ : ∃ c, ((fin P.code).take i)[j]? = some c := ⟨_, List.getElem?_eq_getElem hj⟩
        have : v = .bool c := by rw [List.getElem?_map, hc] at ev; exact (Option.some.inj ev).symm
        subst this
        have htk := take_snoc hc
        refine AS.name rfl ?_
        refine ⟨Loc.le_set rfl, IFS.one ?_⟩
        wtm_at "m_run"
        refine ife_b (fun hct => ?_) fun hcf => ?_
        · wtm_at "m_run"
          refine ⟨He, .refl _, le, ?_⟩
          rw [htk, List.count_append, hct]; simp [hzs]
        · refine ⟨He, .refl _, le, ?_⟩
          rw [htk, List.count_append, hcf]; simp [hzs]
      · rintro zs He ⟨le, hzs⟩
        refine ⟨le _ _ er, fun a ha => ?_⟩
        have el : (Src.list r (((fin P.code).take i).map AV.bool)).len = ((fin P.code).take i).length := by show (((fin P.code).take i).map AV.bool).length = _; simp
        rw [el, List.take_length] at hzs
        have hzb : zs.length ≤ 1001 := by
          rw [hzs]; refine Nat.le_trans List.count_le_length ?_
          rw [List.length_take]; (first | lia | omega)
        refine ⟨_, _, rfl, LenIs.of (AH.set_self _ _ _) (by (first | lia | omega)), ?_⟩
        refine ⟨_, .refl _, lc.trans (lr.trans (le.trans (le_set ha))), ?_, hi⟩
        rw [plL_succ, hzs]; rfl
    · rintro ys Hc ⟨lc, rfl, _⟩
      have el : (Src.range 0 (((fin P.code).length : Int) + 1).toNat).len = P.code.length + 1 := by show (((fin P.code).length : Int) + 1).toNat = _; (first | lia | omega)
      refine ⟨trivial, fun pa hpa => ?_⟩
      rw [el]
      refine AS.name rfl ?_
      exact ⟨rfl, g1, g2, g3, g4, g5, lc.trans (le_set hpa), pa, rfl, AH.set_self _ _ _⟩
  clear g1 g2 g3 g4 g5
  rintro ρ3 H3 ⟨g1, g2, g3, g4, g5, l3, pa, g6, epa⟩
  have l3H : H.le H3 := l2.trans l3
  have eli3 := l3 _ _ eli
  refine SXs.cons (SX.cutJ (J35_3 H b o el nw_ P pa) ?_ ?_)
  · refine SX.comp rfl (fun _ _ => rfl) (fun _ => rfl) rfl rfl (IT.enumW W rfl rfl rfl ?_)
    wtm_at "m_run"
    refine ⟨_, _, rfl, eli3, rfl, fun i ys Hc => H3.le Hc ∧ ys = natL (keptI (fin P.code) i) ∧ i ≤ P.code.length, ⟨.refl _, rfl, Nat.zero_le _⟩, ?_, ?_⟩
    · rintro i ys Hc hi ⟨lc, rfl, _⟩
      have hi : i < P.code.length := by have : i < ((fin P.code).map AV.bool).length := hi; rw [List.length_map, fl] at this; exact this
      have hkl : (keptI (fin P.code) i).length ≤ i := by unfold keptI; exact Nat.le_trans (List.length_filter_le _ _) (by simp)
      refine ⟨lc _ _ eli3, by simp [natL]; (first | lia | omega), fun v ev t ht => ?_⟩
      obtain ⟨c, hc⟩ : ∃ c, (fin P.code)[i]? = some c := ⟨_, List.getElem?_eq_getElem (by (first | lia | omega))⟩
      have : v = .bool c := by rw [List.getElem?_map, hc] at ev; exact (Option.some.inj ev).symm
      subst this
      have lc' := lc.trans (le_set (o := .tup [.int i, .bool c]) ht)
      have hks := keptI_succ (fin P.code) i
      wtm_at "m_run"
      refine ⟨fun y u e => Loc.le_set rfl _ _ (Loc.le_set rfl _ _ e), IFS.one ?_⟩
      wtm_at "m_run"
      refine ife_b (fun hb => ?_) fun hb => ?_
      · wtm_at "m_run"
        refine ⟨_, .refl _, lc', ?_, by (first | lia | omega)⟩
        rw [hks, hc, hb, if_pos rfl, natL_append]; rfl
      · refine ⟨_, .refl _, lc', ?_, by (first | lia | omega)⟩
        rw [hks, hc, hb, if_neg (by decide), List.append_nil]
    · rintro ys Hc ⟨lc, rfl, _⟩
      have el : (Src.enum li ((fin P.code).map AV.bool)).len = P.code.length := by show ((fin P.code).map AV.bool).length = _; rw [List.length_map, fl]
      refine ⟨lc _ _ eli3, fun ka hka => ?_⟩
      rw [el]
      have lk := lc.trans (le_set (o := .list (natL (keptI (fin P.code) P.code.length))) hka)
      exact ⟨rfl, g1, g2, g3, g4, g6, l3H.trans lk, lk _ _ epa, ka, rfl, AH.set_self _ _ _⟩
  clear g1 g2 g3 g4 g5 g6 eli eli3 epa l2 l3 l3H hli
  rintro ρ4 H4 ⟨g1, g2, g3, g4, g5, l4, epa, ka, g6, eka⟩
  clear H3 ρ3 ρ2 H2 ρ1
  -- what is held
  have hkl := keptI_length (fl := fin P.code) (m := P.code.length) (by rw [fl]; exact Nat.le_refl _)
  have hnl := g.newlen
  have hnp := g.newpos
  have lns : Hs.le H4 := ls.trans l4
  have hln'' : P'.lines.length = (newcode P.code).length := by rw [hln', List.length_map, hkl, hnl]
  have lP : P.locs.length = ld.length := by rw [hv.length, List.length_map]
  have lP' : P'.locs.length = ld.length := by rw [hv'.length, List.length_map]
  have heldO : ∀ {Hx : AH} {Q : AV → AH → Prop}, Hs.le Hx → (∀ f H', Hx.le H' → Rd H' (.lstOf HeldTy) (.ref f) (held P.code P.lines ld ks u m s) → Q (.ref f) H') → NC G (n + 6) "_law_held" [.ref o] Q Hx := fun lx q =>
    law_held_nc W WC (hP.le lx) (VAts.le lx hv) (by (first | lia | omega)) (by (first | lia | omega)) (by (first | lia | omega)) hk (by (first | lia | omega)) hu hm hs q
  have heldN : ∀ {Hx : AH} {Q : AV → AH → Prop}, Hs.le Hx → (∀ f H', Hx.le H' → Rd H' (.lstOf HeldTy) (.ref f) (held P'.code P'.lines (ld.map (nmP (fin P.code))) ks u m s) → Q (.ref f) H') → NC G (n + 6) "_law_held" [.ref nw_] Q Hx := fun lx q =>
    law_held_nc W WC (hP'.le lx) (by rw [List.map_map]; exact VAts.le lx hv') (by rw [hc']; (first | lia | omega)) (by (first | lia | omega)) (by (first | lia | omega)) (hk'.trans hk) (by (first | lia | omega)) (hu'.trans hu) (hm'.trans hm) (hs'.trans hs) q
  refine SXs.cons (SX.cutJ (J35_4 b o el nw_ pa H4 ka) ?_ ?_)
  · wtm_at "m_run"
    refine heldO lns fun f1 H5 l5 r5 => ?_
    wtm_at "m_run"
    have s5 := lns.trans l5
    refine CO.neR0 (t := HeldTy) (by decide) r5 (Rd.le s5 hel) ?_
    have hPn := hP'.le s5
    have hcn := hPn.code
    have zc : P'.code.length ≤ 1000 := by rw [hc']; (first | lia | omega)
    have eka5 := l5 _ _ eka
    wtm_at "m_run"
    have hlk : P'.code.length = (keptI (fin P.code) P.code.length).length := by rw [hc', hnl, hkl]
    refine ife_ne (fun h => absurd (by rw [hlk]) h) fun _ => ?_
    wtm_at "m_run"
    refine heldN s5 fun f2 H6 l6 r6 => ?_
    have s6 := s5.trans l6
    obtain ⟨us, u2, e6, z6, t6, _⟩ := held_inv r6
    wtm_at "m_run"
    refine ⟨_, _, rfl, e6, by rw [sizeLine_eq]; (first | lia | omega), fun r hr => ?_⟩
    have lr := le_set (o := .list (pickL us (some 3) none)) hr
    have er : (H6.set r (.list (pickL us (some 3) none))) r = some (.list (pickL us (some 3) none)) := AH.set_self _ _ _
    generalize H6.set r (.list (pickL us (some 3) none)) = H7 at lr er ⊢
    have s7 := s6.trans lr
    obtain ⟨ws, w2, e7, z7, t7, _⟩ := held_inv (Rd.le s7 hel)
    wtm_at "m_run"
    refine ⟨_, _, rfl, e7, by rw [sizeLine_eq]; (first | lia | omega), fun r' hr' => ?_⟩
    have lr' := le_set (o := .list (pickL ws (some 3) none)) hr'
    have er' : (H7.set r' (.list (pickL ws (some 3) none))) r' = some (.list (pickL ws (some 3) none)) := AH.set_self _ _ _
    generalize H7.set r' (.list (pickL ws (some 3) none)) = H8 at lr' er' ⊢
    refine CO.neR0 (t := TailTy) (by decide) (rd_lst (lr' _ _ er) (RdR.le (lr.trans lr') t6)) (rd_lst er' (RdR.le lr' t7)) ?_
    wtm_at "m_run"
    exact ⟨rfl, g1, g2, g3, g4, g5, g6, l5.trans (l6.trans (lr.trans lr'))⟩
  clear g1 g2 g3 g4 g5 g6
  rintro ρ5 H5 ⟨g1, g2, g3, g4, g5, g6, l5⟩
  have s5 := lns.trans l5
  have epa5 := l5 _ _ epa
  have eka5 := l5 _ _ eka
  clear epa eka
  refine SXs.cons (SX.cutJ (J35_5 b o el nw_ pa H5) ?_ ?_)
  · have hPn := hP'.le s5
    wtm_at "m_run"
    refine EV.comp rfl (fun _ _ => rfl) (IT.list ?_)
    wtm_at "m_run"
    refine ⟨_, _, rfl, eka5, rfl, fun i ys Hc => H5.le Hc ∧ ys = (((keptI (fin P.code) P.code.length).take i).map fun j => P.lines.getD j 0).map .int ∧ i ≤ (keptI (fin P.code) P.code.length).length, ⟨.refl _, rfl, Nat.zero_le _⟩, ?_, ?_⟩
    · rintro i ys Hc hi ⟨lc, rfl, _⟩
      have hi : i < (keptI (fin P.code) P.code.length).length := by have : i < (natL (keptI (fin P.code) P.code.length)).length := hi; simpa [natL] using this
      refine ⟨lc _ _ eka5, by rw [List.length_map, List.length_map, List.length_take]; (first | lia | omega), fun v ev => ?_⟩
      obtain ⟨c, hc⟩ : ∃ c, (keptI (fin P.code) P.code.length)[i]? = some c := ⟨_, List.getElem?_eq_getElem hi⟩
      have : v = .int c := by unfold natL at ev; rw [List.getElem?_map, hc] at ev; exact (Option.some.inj ev).symm
      subst this
      have hcl := keptI_mem (List.mem_of_getElem? hc)
      have hPo := hP.le (s5.trans lc)
      have hlo := hPo.lines
      have hln1 : P.lines[c]? = some (P.lines.getD c 0) := by
        rw [List.getD_eq_getElem?_getD, List.getElem?_eq_getElem (show c < P.lines.length by (first | lia | omega))]; rfl
      refine AS.name rfl ?_
      refine ⟨Loc.le_set rfl, IFS.nil (ife_t ?_)⟩
      wtm_at "m_run"
      refine ⟨Hc, .refl _, lc, ?_, by (first | lia | omega)⟩
      rw [take_snoc hc]; simp
    · rintro ys Hc ⟨lc, rfl, _⟩
      refine ⟨lc _ _ eka5, fun a ha => ?_⟩
      have el' : (Src.list ka (natL (keptI (fin P.code) P.code.length))).len = (keptI (fin P.code) P.code.length).length := by show (natL _).length = _; simp [natL]
      rw [el', List.take_length]
      have hll := (hPn.le lc).lines
      rw [hln'] at hll
      refine CO.neL0 (t := .I) (by decide) (rd_ints (set_old ha hll)) (rd_ints (AH.set_self _ _ _)) ?_
      have la := le_set (o := .list ((((keptI (fin P.code) P.code.length)).map fun j => P.lines.getD j 0).map .int)) ha
      generalize Hc.set a (.list ((((keptI (fin P.code) P.code.length)).map fun j => P.lines.getD j 0).map .int)) = Hd at la ⊢
      have ld' := lc.trans la
      have hPd := hPn.le ld'
      have hcd := hPd.code
      wtm_at "m_run"
      rw [hc'] at hcd
      refine GI.listNeg hcd (by decide) (by rw [List.length_map]; (first | lia | omega)) (by decide) (v := .int 8388638) ?_ ?_
      · rw [List.length_map, show (-1 + (((newcode P.code).length : Nat) : Int)).toNat = (newcode P.code).length - 1 by (first | lia | omega), List.getElem?_map, g.newlast]; rfl
      wtm_at "m_run"
      refine law_parts_nc W fun t ht => ?_
      have et : (Hd.set t (.tup [.int (8388638 % 64), .int (8388638 / 64 % 256), .int (8388638 / 8388608 % 512), .int (8388638 / 16384 % 512)])) t = some (.tup [.int (8388638 % 64), .int (8388638 / 64 % 256), .int (8388638 / 8388608 % 512), .int (8388638 / 16384 % 512)]) := AH.set_self _ _ _
      wtm_at "m_run"
      refine ⟨_, _, rfl, .inr et, ?_⟩
      refine GI.tup et (by decide) (by decide) (v := .int (8388638 % 64)) rfl ?_
      wtm_at "m_run"
      refine ife_ne (fun h => absurd (by decide) h) fun _ => ?_
      wtm_at "m_run"
      exact ⟨rfl, g1, g2, g3, g4, g5, ld'.trans (le_set ht)⟩
  clear g1 g2 g3 g4 g5 g6
  rintro ρ6 H6 ⟨g1, g2, g3, g4, g5, l6⟩
  have s6 := s5.trans l6
  have epa6 := l6 _ _ epa5
  clear epa5 eka5
  refine SXs.cons (SX.cutJ (J35_6 b o el nw_ pa H6) ?_ ?_)
  · have hPn := hP'.le s6
    have hcn := hPn.code
    rw [hc'] at hcn
    wtm_at "m_run"
    refine EV.comp rfl (fun _ _ => rfl) (IT.list ?_)
    wtm_at "m_run"
    refine law_live_nc W hcn (by (first | lia | omega)) g.newwf fun f hf => ?_
    have lf := le_set (o := .list ((flagsOf (newcode P.code)).map .bool)) hf
    have ef : (H6.set f (.list ((flagsOf (newcode P.code)).map .bool))) f = some (.list ((flagsOf (newcode P.code)).map .bool)) := AH.set_self _ _ _
    generalize H6.set f (.list ((flagsOf (newcode P.code)).map .bool)) = H7 at lf ef ⊢
    wtm_at "m_run"
    have zf := flagsOf_length (newcode P.code)
    refine ⟨_, _, rfl, ef, by rw [List.length_map, sizeLine_eq]; (first | lia | omega), fun r hr => ?_⟩
    have lr := le_set (o := .list (pickL ((flagsOf (newcode P.code)).map AV.bool) none (some (-1)))) hr
    have er : (H7.set r (.list (pickL ((flagsOf (newcode P.code)).map AV.bool) none (some (-1))))) r = some (.list ((flagsOf (newcode P.code)).dropLast.map .bool)) := by rw [AH.set_self, pickL_init, List.map_dropLast]
    generalize H7.set r (.list (pickL ((flagsOf (newcode P.code)).map AV.bool) none (some (-1)))) = H8 at lr er ⊢
    refine ⟨_, _, rfl, er, rfl, fun j zs He => H8.le He ∧ zs = (((flagsOf (newcode P.code)).dropLast.take j).filter (fun b => !b)).map .bool ∧ j ≤ (flagsOf (newcode P.code)).dropLast.length, ⟨.refl _, by simp, Nat.zero_le _⟩, ?_, ?_⟩
    · rintro j zs He hj ⟨le, rfl, _⟩
      have hj : j < (flagsOf (newcode P.code)).dropLast.length := by have : j < ((flagsOf (newcode P.code)).dropLast.map AV.bool).length := hj; simpa using this
      refine ⟨le _ _ er, ?_, fun v ev => ?_⟩
      · rw [List.length_map]
        refine Nat.le_trans (List.length_filter_le _ _) ?_
        rw [List.length_take, List.length_dropLast]; (first | lia | omega)
      obtain ⟨c, hc⟩ : ∃ c, (flagsOf (newcode P.code)).dropLast[j]? = some c := ⟨_, List.getElem?_eq_getElem hj⟩
      have : v = .bool c := by rw [List.getElem?_map, hc] at ev; exact (Option.some.inj ev).symm
      subst this
      have htk := take_snoc hc
      refine AS.name rfl ?_
      refine ⟨Loc.le_set rfl, IFS.one ?_⟩
      wtm_at "m_run"
      refine ife_n (fun hct => ?_) fun hcf => ?_
      · wtm_at "m_run"
        refine ⟨He, .refl _, le, ?_, by (first | lia | omega)⟩
        rw [htk, List.filter_append, hct]; simp
      · refine ⟨He, .refl _, le, ?_, by (first | lia | omega)⟩
        rw [htk, List.filter_append, hcf]; simp
    · rintro zs He ⟨le, rfl, _⟩
      refine ⟨le _ _ er, fun a ha => ?_⟩
      have el' : (Src.list r ((flagsOf (newcode P.code)).dropLast.map AV.bool)).len = (flagsOf (newcode P.code)).dropLast.length := by show ((flagsOf (newcode P.code)).dropLast.map AV.bool).length = _; simp
      rw [el', List.take_length, g.newflags]
      have la := le_set (o := .list (([] : List Bool).map .bool)) ha
      have ea : (He.set a (.list (([] : List Bool).map .bool))) a = some (.list []) := AH.set_self _ _ _
      generalize He.set a (.list (([] : List Bool).map .bool)) = Hg at la ea ⊢
      wtm_at "m_run"
      refine ⟨few (by simp), fun a' ha' => ?_⟩
      refine CO.neL0 (t := .I) (d := []) (by decide) (rd_ints (is := []) (set_old ha' ea)) (rd_ints (is := []) (AH.set_self _ _ _)) ?_
      wtm_at "m_run"
      exact ⟨rfl, g1, g2, g3, g4, g5, lf.trans (lr.trans (le.trans (la.trans (le_set ha'))))⟩
  clear g1 g2 g3 g4 g5
  rintro ρ7 H7 ⟨g1, g2, g3, g4, g5, l7⟩
  have s7 := s6.trans l7
  have epa7 := l7 _ _ epa6
  clear epa6
  refine SXs.cons (SX.cutJ (J35_7 b o nw_ H7) ?_ ?_)
  · wtm_at "m_run"
    refine heldN s7 fun f2 H8 l8 r8 => ?_
    have s8 := s7.trans l8
    have epa8 := l8 _ _ epa7
    obtain ⟨us, u2, e8, z8, _, i8, n8⟩ := held_inv r8
    wtm_at "m_run"
    refine GI.list e8 (by decide) (by decide) (v := u2) i8 ?_
    refine EV.comp rfl (fun _ _ => rfl) (IT.list ?_)
    obtain ⟨ws, w2, e9, z9, _, i9, n9⟩ := held_inv (Rd.le s8 hel)
    wtm_at "m_run"
    refine GI.list e9 (by decide) (by decide) (v := w2) i9 ?_
    simp only [Rd] at n9
    obtain ⟨lw, qs, rfl, hlw, hqs⟩ := n9
    have hqs : All2 (Rd H8 NmTy) qs (ld.map nmD) := hqs
    have hql : qs.length = ld.length := by rw [hqs.length, List.length_map]
    refine ⟨lw, qs, rfl, hlw, ?fit, fun i ys Hc => H8.le Hc ∧ All2 (Rd Hc NmTy) ys (((ld.map (nmP (fin P.code))).map nmD).take i) ∧ ys.length = i, ⟨.refl _, trivial, rfl⟩, ?turn, ?fin⟩
    case fit =>
      suffices hall : qs.all AV.isRef = true from hall
      refine List.all_eq_true.mpr fun v hvm => ?_
      obtain ⟨i, hi, rfl⟩ := List.mem_iff_getElem.mp hvm
      obtain ⟨d', ed, hd⟩ := hqs.at (List.getElem?_eq_getElem hi)
      rw [List.getElem?_map] at ed
      obtain ⟨d, ed', rfl⟩ := Option.map_eq_some_iff.mp ed
      obtain ⟨t, e, _⟩ := nm_inv hd
      rw [e]; rfl
    case turn =>
      rintro i ys Hc hi ⟨lc, hy, hlen⟩
      have hi : i < qs.length := hi
      refine ⟨lc _ _ hlw, by (first | lia | omega), fun v ev => ?_⟩
      obtain ⟨d', ed, hd⟩ := hqs.at ev
      rw [List.getElem?_map] at ed
      obtain ⟨d, ed', rfl⟩ := Option.map_eq_some_iff.mp ed
      obtain ⟨t, rfl, ht⟩ := nm_inv hd
      have htc := lc _ _ ht
      have hdm := hl d (List.mem_of_getElem? ed')
      have epc := lc _ _ epa8
      wtm_at "m_run"
      refine ⟨fun y u e => Loc.le_set rfl _ _ (Loc.le_set rfl _ _ (Loc.le_set rfl _ _ e)), IFS.nil (ife_t ?_)⟩
      wtm_at "m_run"
      refine GI.list epc (by (first | lia | omega)) (by (first | lia | omega)) (plL_get (i := d.2.1) (by (first | lia | omega))) ?_
      wtm_at "m_run"
      refine GI.list epc (by (first | lia | omega)) (by (first | lia | omega)) (plL_get (i := d.2.2) (by (first | lia | omega))) ?_
      wtm_at "m_run"
      refine ⟨few (by simp), fun t' ht' => ?_⟩
      have lt := le_set (o := .tup [.byt d.1, .int (pl (fin P.code) d.2.1 : Nat), .int (pl (fin P.code) d.2.2 : Nat)]) ht'
      have et : (Hc.set t' (.tup [.byt d.1, .int (pl (fin P.code) d.2.1 : Nat), .int (pl (fin P.code) d.2.2 : Nat)])) t' = some (.tup [.byt d.1, .int (pl (fin P.code) d.2.1 : Nat), .int (pl (fin P.code) d.2.2 : Nat)]) := AH.set_self _ _ _
      refine ⟨_, .refl _, lc.trans lt, ?_, by simp [hlen]⟩
      rw [take_snoc (show ((ld.map (nmP (fin P.code))).map nmD)[i]? = some (nmD (nmP (fin P.code) d)) by rw [List.getElem?_map, List.getElem?_map, ed']; rfl)]
      refine All2.snoc ?_ (All2.mono (fun a b x => Rd.le lt x) hy)
      exact rd_tup et (rdr_c rd_Y (rdr_c rd_I (rdr_c rd_I rdr_n)))
    rintro ys H9 ⟨lc, hy, hlen⟩
    refine ⟨lc _ _ hlw, fun a ha => ?_⟩
    have el' : (Src.list lw qs).len = ((ld.map (nmP (fin P.code))).map nmD).length := by show qs.length = _; rw [hql]; simp
    rw [el', List.take_length] at hy
    have la := le_set (o := .list ys) ha
    refine CO.neL0 (t := NmTy) (by decide) (Rd.le (lc.trans la) n8) (rd_L (AH.set_self _ _ _) (All2.mono (fun a b x => Rd.le la x) hy)) ?_
    wtm_at "m_run"
    exact ⟨rfl, g1, g2, g4, l8.trans (lc.trans la)⟩
  clear g1 g2 g3 g4 g5
  rintro ρ8 H8 ⟨g1, g2, g3, l8⟩
  have B8 : Bx b l H8 := B.le (l4.trans (l5.trans (l6.trans (l7.trans l8))))
  have s8 := s7.trans l8
  clear epa7 l8 l7 l6 l5 l4
  refine SXs.cons (SX.cutJ (J35_8 b l Hs) ?_ ?_)
  · refine SX.for (fun _ _ => rfl) (IT.range1W W rfl rfl rfl ?_)
    wtm_at "m_run"
    refine ⟨by decide, rfl, (J35_9 b l o nw_ Hs), ⟨g1, g2, g3, s8, B8⟩, ?_, ?_⟩
    · clear g1 g2 g3
      rintro i ρ' Hc hi ⟨g1, g2, g3, lc, Bc⟩
      refine ⟨trivial, ?_⟩
      refine AS.name rfl ?_
      refine SXs.cons (SX.cutJ (J35_10 b l o nw_ Hs) ?_ ?_)
      · refine SX.comp rfl (fun _ _ => rfl) (fun _ => rfl) rfl rfl (IT.range1W W rfl rfl rfl ?_)
        wtm_at "m_run"
        refine ⟨by decide, rfl, fun j ys Hd => Hs.le Hd ∧ Bx b l Hd ∧ ∃ bits : List Nat, ys = natL bits ∧ bits.length = j ∧ j ≤ 14, ⟨lc, Bc, [], rfl, rfl, Nat.zero_le _⟩, ?_, ?_⟩
        · rintro j ys Hd hj ⟨ld', Bd, bits, rfl, lb, _⟩
          have hj : j < 14 := hj
          refine ⟨trivial, by simp [natL]; (first | lia | omega), ?_⟩
          refine AS.name rfl ?_
          refine ⟨Loc.le_set rfl, IFS.nil (ife_t ?_)⟩
          wtm_at "m_run"
          refine law_take_nc W Bd (by decide) (by decide) fun r He k9 B9 hr => ?_
          refine ⟨He, .refl _, le_kb ld' k9 sb sl, B9, bits ++ [r], ?_, by simp [lb], hj⟩
          rw [natL_append]; rfl
        · rintro ys Hd ⟨ld', Bd, bits, rfl, lb, _⟩
          have lb : bits.length = 14 := lb
          refine ⟨trivial, fun a ha => ?_⟩
          exact ⟨rfl, g1, g2, g3, ld'.trans (le_set ha), Bd.le (le_set ha), a, bits, rfl, lb, AH.set_self _ _ _⟩
      clear g1 g2 g3
      rintro ρ1 Hd ⟨g1, g2, g3, ld', Bd, bi, bits, g4, lb, ebi⟩
      have hPo := hP.le ld'
      have hPn := hP'.le ld'
      wtm_at "m_run"
      refine law_trace_nc W hPo.code hPo.lines ebi g.wf hln (by (first | lia | omega)) (by (first | lia | omega)) fun f1 He l1 r1 => ?_
      have hPn1 := hPn.le l1
      have hcn1 := hPn1.code
      have hln1 := hPn1.lines
      rw [hc'] at hcn1
      rw [hln'] at hln1
      wtm_at "m_run"
      refine law_trace_nc W hcn1 hln1 (l1 _ _ ebi) g.newwf (by rw [← hln']; exact hln'') (by (first | lia | omega)) (by (first | lia | omega)) fun f2 Hf l2 r2 => ?_
      have ht := g.trace P.lines hln bits .zero
      have ht : trc (newcode P.code) ((keptI (fin P.code) P.code.length).map fun i => P.lines.getD i 0) bits 0 = trc P.code P.lines bits 0 := ht
      rw [ht] at r2
      refine CO.neL0 (t := TrTy) (by decide) (Rd.le l2 r1) r2 ?_
      wtm_at "m_run"
      exact ⟨Hf, .refl _, g1, g2, g3, ld'.trans (l1.trans l2), Bd.le (l1.trans l2)⟩
    · rintro ρ' Hc ⟨g1, g2, g3, lc, Bc⟩
      exact ⟨trivial, rfl, lc, Bc⟩
  rintro ρ9 H9 ⟨l9, B9⟩
  wtm_at "m_run"
  exact .ret (q H9 l9 B9)
end

/-- the heap without the box -/
def AH.del2 (H : AH) (b l : Addr) : AH := fun c => if c = b ∨ c = l then none else H c
section
variable {H H' : AH} {b l c : Addr} {o : AO}
theorem del2_le : (H.del2 b l).le H := fun c o e => by
  unfold AH.del2 at e; split at e
  · cases e
  · exact e
theorem del2_of (h1 : c ≠ b) (h2 : c ≠ l) (e : H c = some o) : H.del2 b l c = some o := by
  unfold AH.del2; rw [if_neg]; exact e
  rintro (x | x)
  · exact h1 x
  · exact h2 x
theorem del2_b : H.del2 b l b = none := by unfold AH.del2; rw [if_pos (.inl rfl)]
theorem del2_l : H.del2 b l l = none := by unfold AH.del2; rw [if_pos (.inr rfl)]
theorem kb_del2 (k : KB b l H H') : KB b l H (H'.del2 b l) := fun c o h1 h2 e => del2_of h1 h2 (k c o h1 h2 e)
theorem le_del2 {Hs : AH} (ls : Hs.le H) (h1 : Hs b = none) (h2 : Hs l = none) : Hs.le (H.del2 b l) := fun c o e => del2_of (ne_ns e h1) (ne_ns e h2) (ls c o e)
end
theorem PAt.kb {k : KA} {H0 H H' : AH} {x b l : Addr} {P : PV} (h : PAt k H x P) (B : Bx b l H) (B0 : Bx b l H0) (new : PNew H0 P) (K : KB b l H H') : PAt k H' x P := by
  obtain ⟨n1, n2, n3, n4, n5, n6⟩ := new
  obtain ⟨⟨us, e1⟩, ⟨ws, e2⟩⟩ := B.lists
  have go : ∀ {c : Addr} {o : AO}, H0 c = none → H c = some o → H' c = some o := fun hc e => K _ _ (B0.off hc).1 (B0.off hc).2 e
  exact ⟨K _ _ (ne_ss h.ix e1 (by intro h; cases h)) (ne_ss h.ix e2 (by intro h; cases h)) h.ix, K _ _ (ne_ss h.id e1 (by intro h; cases h)) (ne_ss h.id e2 (by intro h; cases h)) h.id, h.sz, h.tab, go n1 h.code, go n2 h.lines, go n3 h.consts, go n4 h.locs, go n5 h.kids, go n6 h.upn⟩
theorem PAt.kpD {k : KA} {H H' : AH} {x d : Addr} {P : PV} {fs : List (Str × AV)} (h : PAt k H x P) (hd : H d = some (.flds fs)) (hne : P.d ≠ d) (K : Kp d H H') : PAt k H' x P := by
  have go : ∀ {c : Addr} {vs : List AV}, H c = some (.list vs) → H' c = some (.list vs) := fun e => K _ _ (ne_ss e hd (by intro h; cases h)) e
  exact ⟨K _ _ (ne_ss h.ix hd (by intro h; cases h)) h.ix, K _ _ hne h.id, h.sz, h.tab, go h.code, go h.lines, go h.consts, go h.locs, go h.kids, go h.upn⟩
/-- a variable whose fields lie apart -/
def VAtA (A : Addr → Prop) (k : KA) (H : AH) (v : AV) (d : VD) : Prop := ∃ x dd fs, v = .ref x ∧ H x = some (.inst k.CL dd) ∧ H dd = some (.flds fs) ∧ ¬ A dd ∧ fs.length ≤ 400 ∧ fs.lookup ("name" : Str) = some d.1 ∧ fs.lookup ("start" : Str) = some d.2.1 ∧ fs.lookup ("end" : Str) = some d.2.2
theorem VAtA.vat {A : Addr → Prop} {k : KA} {H : AH} {v : AV} {d : VD} (h : VAtA A k H v d) : VAt k H v d := by
  obtain ⟨x, dd, fs, e, h1, h2, h3, h4⟩ := h; exact ⟨x, dd, fs, e, h1, h2, h4⟩
theorem VAtA.kp {A : Addr → Prop} {N : Addr} {k : KA} {H H' : AH} {v : AV} {d : VD} {fl : List (Str × AV)} (h : VAtA A k H v d) (a : A N) (hN : H N = some (.flds fl)) (l : Kp N H H') : VAtA A k H' v d := by
  obtain ⟨x, dd, fs, e, h1, h2, h3, h4⟩ := h
  exact ⟨x, dd, fs, e, l _ _ (ne_ss h1 hN (by intro h; cases h)) h1, l _ _ (fun q => h3 (q ▸ a)) h2, h3, h4⟩
theorem VAtA.le {A : Addr → Prop} {k : KA} {H H' : AH} {v : AV} {d : VD} (h : VAtA A k H v d) (l : H.le H') : VAtA A k H' v d := by
  obtain ⟨x, dd, fs, e, h1, h2, h3, h4⟩ := h; exact ⟨x, dd, fs, e, l _ _ h1, l _ _ h2, h3, h4⟩
theorem VAtA.of {N M : Addr} {k : KA} {H : AH} {v : AV} {d : VD} (h : VAtN N k H v d) (j : VAtN M k H v d) : VAtA (fun c => c = N ∨ c = M) k H v d := by
  obtain ⟨x, dd, fs, e, h1, h2, h3, h4⟩ := h
  obtain ⟨x', dd', fs', e', j1, j2, j3, j4⟩ := j
  have ex := e.symm.trans e'
  cases ex
  rw [h1] at j1; cases j1
  refine ⟨x, dd, fs, e, h1, h2, ?_, h4⟩
  rintro (q | q)
  · exact h3 q
  · exact j3 q
theorem VAtN.kb {N b l : Addr} {k : KA} {H H' : AH} {v : AV} {d : VD} (h : VAtN N k H v d) (B : Bx b l H) (K : KB b l H H') : VAtN N k H' v d :=
  h.ch (A := fun c => c = b ∨ c = l) (fun c a => by rcases a with rfl | rfl; exact B.lists.1; exact B.lists.2) (K.ch (.inl rfl) (.inr rfl))
theorem VAt.toN {N : Addr} {k : KA} {H : AH} {v : AV} {d : VD} (h : VAt k H v d) (hN : H N = none) : VAtN N k H v d := by
  obtain ⟨x, dd, fs, e, h1, h2, h3⟩ := h
  exact ⟨x, dd, fs, e, h1, h2, ne_ns h2 hN, h3⟩
theorem All2.and {α β : Type} {R S : α → β → Prop} : ∀ {l : List α} {r : List β}, All2 R l r → All2 S l r → All2 (fun a b => R a b ∧ S a b) l r
  | [], [], _, _ => trivial
  | [], _ :: _, h, _ => h.elim
  | _ :: _, [], h, _ => h.elim
  | _ :: _, _ :: _, h, k => ⟨⟨h.1, k.1⟩, All2.and h.2 k.2⟩
theorem All2.one {α β : Type} {R : α → β → Prop} {a : α} {l : List β} (h : All2 R [a] l) : ∃ b, l = [b] ∧ R a b := by
  cases l with
  | nil => exact h.elim
  | cons b r =>
    cases r with
    | nil => exact ⟨b, rfl, h.1⟩
    | cons c t => exact h.2.elim
mutual
theorem Rd.pres {H H' : AH} (p : ∀ c vs, H c = some (.list vs) → H' c = some (.list vs)) (q : ∀ c vs, H c = some (.tup vs) → H' c = some (.tup vs)) : ∀ {t : Ty} {v : AV} {d : t.den}, Rd H t v d → Rd H' t v d
  | .I, v, d, h => by simp only [Rd] at h ⊢; exact h
  | .B, v, d, h => by simp only [Rd] at h ⊢; exact h
  | .Y, v, d, h => by simp only [Rd] at h ⊢; exact h
  | .L t, v, d, h => by
    simp only [Rd] at h ⊢
    obtain ⟨a, vs, e, h1, h2⟩ := h
    exact ⟨a, vs, e, p _ _ h1, All2.mono (fun a b x => Rd.pres p q (t := t) x) h2⟩
  | .T t, v, d, h => by
    simp only [Rd] at h ⊢
    obtain ⟨a, vs, e, h1, h2⟩ := h
    exact ⟨a, vs, e, q _ _ h1, All2.mono (fun a b x => Rd.pres p q (t := t) x) h2⟩
  | .nil, v, d, h => by simp only [Rd] at h
  | .cons a r, v, d, h => by simp only [Rd] at h
  | .tupOf r, v, d, h => by
    simp only [Rd] at h ⊢
    obtain ⟨a, vs, e, h1, h2⟩ := h
    exact ⟨a, vs, e, q _ _ h1, RdR.pres p q (t := r) h2⟩
  | .lstOf r, v, d, h => by
    simp only [Rd] at h ⊢
    obtain ⟨a, vs, e, h1, h2⟩ := h
    exact ⟨a, vs, e, p _ _ h1, RdR.pres p q (t := r) h2⟩
theorem RdR.pres {H H' : AH} (p : ∀ c vs, H c = some (.list vs) → H' c = some (.list vs)) (q : ∀ c vs, H c = some (.tup vs) → H' c = some (.tup vs)) : ∀ {t : Ty} {v : List AV} {d : t.den}, RdR H t v d → RdR H' t v d
  | .nil, v, d, h => by simp only [RdR] at h ⊢; exact h
  | .cons a r, v, d, h => by
    simp only [RdR] at h ⊢
    obtain ⟨x, us, e, h1, h2⟩ := h
    exact ⟨x, us, e, Rd.pres p q (t := a) h1, RdR.pres p q (t := r) h2⟩
  | .I, v, d, h => by simp only [RdR] at h
  | .B, v, d, h => by simp only [RdR] at h
  | .Y, v, d, h => by simp only [RdR] at h
  | .L t, v, d, h => by simp only [RdR] at h
  | .T t, v, d, h => by simp only [RdR] at h
  | .tupOf r, v, d, h => by simp only [RdR] at h
  | .lstOf r, v, d, h => by simp only [RdR] at h
end
theorem Rd.kpF {H H' : AH} {d : Addr} {fs : List (Str × AV)} (hd : H d = some (.flds fs)) (K : Kp d H H') {t : Ty} {v : AV} {x : t.den} (h : Rd H t v x) : Rd H' t v x :=
  Rd.pres (fun c vs e => K _ _ (ne_ss e hd (by intro h; cases h)) e) (fun c vs e => K _ _ (ne_ss e hd (by intro h; cases h)) e) h
theorem good1 : Good [8388638] := by
  refine good_of (a := []) .nil (by decide) ⟨rfl, fun i d e => ?_⟩
  have : i = 0 := by have := (List.getElem?_eq_some_iff.mp e).1; simp at this; exact this
  subst this
  simp at e; subst e
  exact ⟨fun _ => rfl, fun h => by cases h⟩
/-- a call of the box's own kin, the box left aside -/
theorem Bx.aside {b l : Addr} {Hs Hc H2 H' : AH} (B : Bx b l Hc) (sb : Hs b = none) (sl : Hs l = none) (a : ∀ c o, Hc c = some o → Hs c = none → H' c = some o ∧ H2 c = none) : Bx b l H' ∧ H2 b = none ∧ H2 l = none := by
  obtain ⟨xs, s, h1, h2, h3⟩ := B
  exact ⟨⟨xs, s, (a _ _ h1 sb).1, (a _ _ h2 sl).1, h3⟩, (a _ _ h1 sb).2, (a _ _ h2 sl).2⟩
/-- a list of the top's heap -/
def LstInts (h : Heap) (a : Addr) (is : List Int) : Prop := ∃ xs : Array Value, h.IsList a xs ∧ VRs (is.map .int) xs.toList
theorem EV.sliceB {G : Gx} {n : Nat} {sc : Scope} {ρ : Loc} {H : AH} {Q : AV → AH → Prop} {value : Expr} {lower upper : Option Expr} {p pos : Pos} {sa : Addr} {ns : List Int} (hb : LstInts G.base sa ns) (hz : ns.length ≤ sizeLine)
    (h : EV G n sc value (fun a H₁ => a = .ref sa ∧ EVo G n sc lower (fun lo H₂ => EVo G n sc upper (fun hi H₃ => ∀ r, H₃ r = none → Q (.ref r) (H₃.set r (.list (pickL (ns.map .int) lo hi)))) ρ H₂) ρ H₁) ρ H) :
    EV G n sc (.Subscript value (.Slice lower upper none p) pos) Q ρ H := by
  intro A P D s ro S
  rw [eval_Subscript]
  refine wpAny_bind (wp_mono (h A P D s ro S) fun x s₁ ⟨a, H₁, ha, S₁, ea, h₁⟩ => wpAny_bind (wpAny_holding (wpAny_Slice (wp_mono (h₁.use ro S₁) fun vl s₂ ⟨lo, H₂, pl, S₂, h₂⟩ =>
    wp_mono (h₂.use ro S₂) fun vu s₃ ⟨hi, H₃, pu, S₃, hq⟩ => wpAny_pure ?_))))
  subst ea
  cases ha
  obtain ⟨xs, ⟨ob, ho, hx⟩, rx⟩ := hb
  have hx : s₃.heap.IsList sa xs := ⟨ob, S₃.h.baseIn ho, hx⟩
  have e : ns.length = xs.size := by simpa using rx.1
  refine wpAny_bind (wpAny_standAt ?_)
  refine tail_gi (T := "list") (hx.push _).typeIs slot_list_getitem.lookup (.inr rfl) (wpAny_getItem_list_slice (hx.push _) (Heap.IsSliceOf.new ..) pl pu .none (by simp) ?_ (by omega))
  refine ⟨.ref _, _, .ref _, (S₃.ext fun b o y => Heap.get?_push_of_some _ y).alloc (o := .list (pickL (ns.map .int) lo hi)) (Nat.le_refl _) (fun b o y => Heap.get?_push_of_some _ y) ⟨_, 0, Heap.get?_push_size _ rfl, ?_⟩, hq _ ?_⟩
  · have := rx.pick (sliceRange (sliceBounds lo hi none xs.size).1 (sliceBounds lo hi none xs.size).2.1 1)
    unfold pickL
    rw [List.length_map, e]
    simpa [slicePick, sliceBounds] using this
  · exact (S₃.h.fresh (Nat.le_of_lt (by rw [Heap.size_push]; exact Nat.lt_succ_self _))).1
theorem PAt.del2 {k : KA} {H : AH} {x b l : Addr} {P : PV} (h : PAt k H x P) (B : Bx b l H) (off : ∀ c, c = P.lc ∨ c = P.ll ∨ c = P.lk ∨ c = P.lv ∨ c = P.lp ∨ c = P.lu → c ≠ b ∧ c ≠ l) : PAt k (H.del2 b l) x P := by
  obtain ⟨⟨us, e1⟩, ⟨ws, e2⟩⟩ := B.lists
  have go : ∀ {c : Addr} {o : AO}, (c = P.lc ∨ c = P.ll ∨ c = P.lk ∨ c = P.lv ∨ c = P.lp ∨ c = P.lu) → H c = some o → H.del2 b l c = some o := fun hc e => del2_of (off _ hc).1 (off _ hc).2 e
  exact ⟨del2_of (ne_ss h.ix e1 (by intro h; cases h)) (ne_ss h.ix e2 (by intro h; cases h)) h.ix, del2_of (ne_ss h.id e1 (by intro h; cases h)) (ne_ss h.id e2 (by intro h; cases h)) h.id, h.sz, h.tab,
    go (.inl rfl) h.code, go (.inr (.inl rfl)) h.lines, go (.inr (.inr (.inl rfl))) h.consts, go (.inr (.inr (.inr (.inl rfl)))) h.locs, go (.inr (.inr (.inr (.inr (.inl rfl))))) h.kids, go (.inr (.inr (.inr (.inr (.inr rfl))))) h.upn⟩
/-- a new function that stands for an old one -/
structure For (k : KA) (H : AH) (y : Addr) (Py : PV) (P : PV) (ld : List NmD) : Prop where
  at_ : PAt k H y Py
  code : Py.code = newcode P.code
  lines : Py.lines = (keptI (fin P.code) P.code.length).map (fun i => P.lines.getD i 0)
  consts : Py.consts = P.consts
  locs : All2 (VAt k H) Py.locs (ld.map fun d => vdD (nmP (fin P.code) d))
  src : Py.src = P.src
  upc : Py.upc = P.upc
  mx : Py.mx = P.mx
theorem For.le {k : KA} {H H' : AH} {y : Addr} {Py P : PV} {ld : List NmD} (h : For k H y Py P ld) (l : H.le H') : For k H' y Py P ld :=
  ⟨h.at_.le l, h.code, h.lines, h.consts, VAts.le l h.locs, h.src, h.upc, h.mx⟩
/-- what the law builds -/
structure Bt (P : PV) (ld : List NmD) : Prop where
  nod : PNd P
  good : Good P.code
  lines : P.lines.length = P.code.length
  consts : P.consts = ([5] : List Int).map .int
  upn : P.upn = []
  src : P.src = .byt #[64, 115]
  upc : P.upc = .int 2
  mx : P.mx = .int 8
  le : ∀ d ∈ ld, d.2.1 ≤ P.code.length ∧ d.2.2 ≤ P.code.length
  len : ld.length ≤ 2
inductive J36_0 (sa : Addr) (ρ' : Loc) (H' : AH) : Prop
  | mk : (ρ' "script" = some (.ref sa)) → (ρ' "seed" = some (.int 77)) → J36_0 sa ρ' H'
inductive J36_1 (sa : Addr) (ρ' : Loc) (H' : AH) : Prop
  | mk : (ρ' "script" = some (.ref sa)) → ∀ s : Int, (ρ' "seed" = some (.int s)) → (0 ≤ s) → (s < 2147483647) → J36_1 sa ρ' H'
inductive J36_2  (ρ' : Loc) (H' : AH) : Prop
  | mk : ∀ b l, (ρ' "box" = some (.ref b)) → (Bx b l H') → J36_2  ρ' H'
inductive J36_3 (k : KA) (b : Addr) (l : Addr) (ρ' : Loc) (H' : AH) : Prop
  | mk : (ρ' "box" = some (.ref b)) → ∀ (x1 x2 : Addr) (P1 P2 : PV) (ld1 ld2 : List NmD) (Hs : AH), (ρ' "old" = some (.ref x1)) → (ρ' "inner" = some (.ref x2)) → (Hs.le H') → (Hs b = none) → (Hs l = none) → (Bx b l H') → (PAt k Hs x1 P1) → (PAt k Hs x2 P2) → (P1.d ≠ P2.d) → (P1.fs.length ≤ 40) → (P2.fs.length ≤ 40) → (Bt P1 ld1) → (Bt P2 ld2) → (P1.kids = []) → (P2.kids = []) → (All2 (VAtA (fun c => c = P1.d ∨ c = P2.d) k Hs) P1.locs (ld1.map vdD)) → (All2 (VAtA (fun c => c = P1.d ∨ c = P2.d) k Hs) P2.locs (ld2.map vdD)) → J36_3 k b l ρ' H'
inductive J36_4 (k : KA) (b : Addr) (l : Addr) (x1 : Addr) (x2 : Addr) (P1 : PV) (P2 : PV) (ld1 : List NmD) (ld2 : List NmD) (A : Addr → Prop) (ρ' : Loc) (H' : AH) : Prop
  | mk : (ρ' "box" = some (.ref b)) → (ρ' "old" = some (.ref x1)) → (ρ' "inner" = some (.ref x2)) → ∀ (P1' : PV) (Hs : AH), (P1'.d = P1.d) → (Hs.le H') → (Hs b = none) → (Hs l = none) → (Bx b l H') → (PAt k Hs x1 P1') → (PAt k Hs x2 P2) → (Bt P1' ld1) → (P1'.kids = [.ref x2]) → (All2 (VAtA A k Hs) P1'.locs (ld1.map vdD)) → (All2 (VAtA A k Hs) P2.locs (ld2.map vdD)) → J36_4 k b l x1 x2 P1 P2 ld1 ld2 A ρ' H'
inductive J36_5 (b : Addr) (l : Addr) (x1 : Addr) (x2 : Addr) (P2 : PV) (ld1 : List NmD) (ld2 : List NmD) (Q1 : PV) (Ht : AH) (ρ' : Loc) (H' : AH) : Prop
  | mk : (ρ' "box" = some (.ref b)) → (ρ' "old" = some (.ref x1)) → (ρ' "inner" = some (.ref x2)) → ∀ (f1 f2 : Addr) (Hs : AH), (ρ' "elder" = some (.ref f1)) → (ρ' "elder_inner" = some (.ref f2)) → (Ht.le Hs) → (Hs.le H') → (Hs b = none) → (Hs l = none) → (Bx b l H') → (Rd Hs (.lstOf HeldTy) (.ref f1) (held Q1.code Q1.lines ld1 [5] 2 8 #[64, 115])) → (Rd Hs (.lstOf HeldTy) (.ref f2) (held P2.code P2.lines ld2 [5] 2 8 #[64, 115])) → J36_5 b l x1 x2 P2 ld1 ld2 Q1 Ht ρ' H'
inductive J36_6 (k : KA) (b : Addr) (l : Addr) (x1 : Addr) (x2 : Addr) (P2 : PV) (ld1 : List NmD) (ld2 : List NmD) (A : Addr → Prop) (Q1 : PV) (f1 : Addr) (f2 : Addr) (ρ' : Loc) (H' : AH) : Prop
  | mk : (ρ' "box" = some (.ref b)) → (ρ' "old" = some (.ref x1)) → (ρ' "inner" = some (.ref x2)) → (ρ' "elder" = some (.ref f1)) → (ρ' "elder_inner" = some (.ref f2)) → ∀ (Q2 P3 : PV) (x3 : Addr) (Hs : AH), (Hs.le H') → (Hs b = none) → (Hs l = none) → (Bx b l H') → (PAt k Hs x1 Q1) → (PAt k Hs x2 Q2) → (Bt Q2 ld2) → (Q2.code = P2.code) → (Q2.lines = P2.lines) → (Q2.kids = [.ref x3]) → (All2 (VAtA A k Hs) Q1.locs (ld1.map vdD)) → (All2 (VAtA A k Hs) Q2.locs (ld2.map vdD)) → (Rd Hs (.lstOf HeldTy) (.ref f1) (held Q1.code Q1.lines ld1 [5] 2 8 #[64, 115])) → (Rd Hs (.lstOf HeldTy) (.ref f2) (held P2.code P2.lines ld2 [5] 2 8 #[64, 115])) → (Hs P3.d = none) → (PAt k H' x3 P3) → (PNd P3) → (P3.fs.length ≤ 30) → (P3.consts = []) → (P3.locs = []) → (P3.kids = []) → (P3.upn = []) → ((∀ c, c = P3.lc ∨ c = P3.ll ∨ c = P3.lk ∨ c = P3.lv ∨ c = P3.lp ∨ c = P3.lu → c ≠ b ∧ c ≠ l)) → J36_6 k b l x1 x2 P2 ld1 ld2 A Q1 f1 f2 ρ' H'
inductive J36_7 (k : KA) (b : Addr) (l : Addr) (x1 : Addr) (x2 : Addr) (f1 : Addr) (f2 : Addr) (x3 : Addr) (Ht : AH) (ρ' : Loc) (H' : AH) : Prop
  | mk : (ρ' "box" = some (.ref b)) → (ρ' "old" = some (.ref x1)) → (ρ' "inner" = some (.ref x2)) → (ρ' "elder" = some (.ref f1)) → (ρ' "elder_inner" = some (.ref f2)) → ∀ P3' : PV, (Ht.le H') → (Bx b l H') → (Ht P3'.d = none) → (PAt k H' x3 P3') → (PNd P3') → (P3'.fs.length ≤ 32) → (P3'.code = [8388638]) → (P3'.upc = .int 2) → (P3'.consts = []) → (P3'.locs = []) → (P3'.kids = []) → (P3'.upn = []) → ((∀ c, c = P3'.lc ∨ c = P3'.ll ∨ c = P3'.lk ∨ c = P3'.lv ∨ c = P3'.lp ∨ c = P3'.lu → c ≠ b ∧ c ≠ l)) → J36_7 k b l x1 x2 f1 f2 x3 Ht ρ' H'
inductive J36_8 (k : KA) (b : Addr) (l : Addr) (x1 : Addr) (x2 : Addr) (f1 : Addr) (f2 : Addr) (x3 : Addr) (Ht : AH) (ρ' : Loc) (H' : AH) : Prop
  | mk : (ρ' "box" = some (.ref b)) → (ρ' "old" = some (.ref x1)) → (ρ' "inner" = some (.ref x2)) → (ρ' "elder" = some (.ref f1)) → (ρ' "elder_inner" = some (.ref f2)) → ∀ P3' : PV, (Ht.le H') → (Bx b l H') → (PAt k H' x3 P3') → (P3'.code = [8388638]) → (P3'.lines = [1]) → (P3'.upc = .int 2) → (P3'.consts = []) → (P3'.locs = []) → (P3'.kids = []) → (P3'.upn = []) → ((∀ c, c = P3'.lc ∨ c = P3'.ll ∨ c = P3'.lk ∨ c = P3'.lv ∨ c = P3'.lp ∨ c = P3'.lu → c ≠ b ∧ c ≠ l)) → J36_8 k b l x1 x2 f1 f2 x3 Ht ρ' H'
inductive J36_9 (k : KA) (b : Addr) (l : Addr) (x1 : Addr) (x2 : Addr) (ld1 : List NmD) (ld2 : List NmD) (Q1 : PV) (f1 : Addr) (f2 : Addr) (Q2 : PV) (Hz : AH) (ρ' : Loc) (H' : AH) : Prop
  | mk : (ρ' "box" = some (.ref b)) → (ρ' "old" = some (.ref x1)) → (ρ' "inner" = some (.ref x2)) → (ρ' "elder" = some (.ref f1)) → (ρ' "elder_inner" = some (.ref f2)) → ∀ (y1 y2 : Addr) (R1 R2 : PV) (Hs : AH), (ρ' "new" = some (.ref y1)) → (Hz.le Hs) → (Hs.le H') → (Hs b = none) → (Hs l = none) → (Bx b l H') → (For k Hs y1 R1 Q1 ld1) → (R1.kids = [.ref y2]) → (For k Hs y2 R2 Q2 ld2) → J36_9 k b l x1 x2 ld1 ld2 Q1 f1 f2 Q2 Hz ρ' H'
inductive K36_0 (sa : Addr) (H2 : AH) (i : Nat) (ρ' : Loc) (Hc : AH) : Prop
  | mk : (Hc = H2) → (ρ' "script" = some (.ref sa)) → ∀ s : Int, (ρ' "seed" = some (.int s)) → (0 ≤ s) → (s < 2147483647) → K36_0 sa H2 i ρ' Hc
section
variable {G : Gx} {n : Nat} {sc : Scope} {ρ : Loc} {H : AH} {Q : AV → AH → Prop} {k : KA} (W : WW G) (WC : WK G k)
include W WC
theorem drop_for {x : Addr} {P : PV} {ld : List NmD} {K : AV → AV → AH → Prop} (hK : ∀ a b H H', H.le H' → K a b H → K a b H') (hP : PAt k H x P) (hv : All2 (VAt k H) P.locs (ld.map vdD)) (hle : ∀ d ∈ ld, d.2.1 ≤ P.code.length ∧ d.2.2 ≤ P.code.length) (hz : ld.length ≤ 2)
    (hln : P.lines.length = P.code.length) (g : Good P.code) (z3 : P.consts.length ≤ 1000) (z5 : P.kids.length ≤ 1000) (z6 : P.upn.length ≤ 1000)
    (hc : ∀ s w, St P.code s → P.code[s]? = some w → w % 64 = 36 → ∃ y Py, P.kids[0]? = some (.ref y) ∧ PAt k H y Py ∧ Py.upc = .int 2)
    (hkids : ∀ v ∈ P.kids, ∀ H', H.le H' → NC G (n + 6) "drop_dead" [v] (fun v' H'' => H'.le H'' ∧ K v v' H'') H') :
    NC G (n + 7) "drop_dead" [.ref x] (fun v H' => H.le H' ∧ ∃ y Py, v = .ref y ∧ For k H' y Py P ld ∧ All2 (fun v v' => K v v' H') P.kids Py.kids) H := by
  have e1 : ((ld.map fun d => ((AV.byt d.1, d.2.1, d.2.2) : AV × Nat × Nat)).map fun d => (d.1, .int (d.2.1 : Nat), .int (d.2.2 : Nat))) = ld.map vdD := by rw [List.map_map]; rfl
  refine drop_dead_nc W WC (ld := ld.map fun d => (AV.byt d.1, d.2.1, d.2.2)) hK hP (by rw [e1]; exact hv) (fun d hd => ?_) hln g z3 (by rw [hv.length, List.length_map]; omega) z5 z6 hc hkids fun x' H' P' hN _ c1 c2 c3 c4 c5 c6 c7 c8 => ⟨hN.le, x', P', rfl, ⟨hN.at_, c1, c2, c3, ?_, c6, c7, c8⟩, c5⟩
  · obtain ⟨d', h', rfl⟩ := List.mem_map.mp hd; exact hle d' h'
  · have e2 : ((ld.map fun d => ((AV.byt d.1, d.2.1, d.2.2) : AV × Nat × Nat)).map fun d => ((d.1, .int (pl (fin P.code) d.2.1 : Nat), .int (pl (fin P.code) d.2.2 : Nat)) : VD)) = ld.map fun d => vdD (nmP (fin P.code) d) := by rw [List.map_map]; rfl
    rw [e2] at c4; exact c4
set_option maxHeartbeats 600000 in
theorem law_body {sa : Addr} {ns : List Int} (hs : LstInts G.base sa ns) (hz : ns.length ≤ 1000) (hρ : ρ "script" = some (.ref sa)) :
    SXs G (n + 9) (fnS (stAt 72)) (fnB (stAt 72)) (fun f ρ' H' => f = .ret (.bool true)) ρ H := by
  wtm_at "m_open"
  refine SXs.cons (SX.cutJ (J36_0 sa) ?_ ?_)
  · wtm_at "m_run"
    exact ⟨rfl, hρ, rfl⟩
  clear hρ
  rintro ρ1 H1 ⟨g1, g2⟩
  have hz2 : ns.length ≤ sizeLine := by rw [sizeLine_eq]; omega
  have hcut : pickL (ns.map AV.int) none (some 24) = (ns.take 24).map .int := by
    have := pickL_to (ns.map AV.int) (b := 24)
    rw [← List.map_take] at this; exact this
  refine SXs.cons (SX.cutJ (J36_1 sa) ?_ ?_)
  · refine SX.for (fun _ _ => rfl) (IT.list (EV.sliceB hs hz2 ?_))
    wtm_at "m_run"
    refine ⟨rfl, ?_⟩
    wtm_at "m_run"
    intro r hr
    rw [hcut]
    have er : (H1.set r (.list ((ns.take 24).map .int))) r = some (.list ((ns.take 24).map .int)) := AH.set_self _ _ _
    generalize H1.set r (.list ((ns.take 24).map .int)) = H2 at er ⊢
    refine ⟨_, _, rfl, er, rfl, (K36_0 sa H2), ⟨rfl, g1, 77, g2, by decide, by decide⟩, ?_, ?_⟩
    · rintro i ρ' Hc hi ⟨rfl, g1, s, g2, s0, s1⟩
      refine ⟨er, fun v ev => ?_⟩
      rw [List.getElem?_map] at ev
      obtain ⟨x, ex, rfl⟩ := Option.map_eq_some_iff.mp ev
      refine AS.name rfl ?_
      wtm_at "m_run"
      refine BO.mul (by omega) ?_
      wtm_at "m_run"
      refine BO.mod (by decide) ?_
      wtm_at "m_run"
      have e := Int.fmod_eq_emod_of_nonneg (s * 31 + x) (show (0 : Int) ≤ 2147483647 by decide)
      refine ⟨_, .refl _, rfl, g1, _, rfl, ?_, ?_⟩
      · rw [e]; omega
      · rw [e]; omega
    · rintro ρ' Hc ⟨rfl, g1, s, g2, s0, s1⟩
      exact ⟨er, rfl, g1, s, g2, s0, s1⟩
  clear g1 g2
  rintro ρ2 H2 ⟨g1, s, g2, s0, s1⟩
  refine SXs.cons (SX.cutJ (J36_2 ) ?_ ?_)
  · refine SX.assign1 (fun _ => rfl) (fun _ => rfl) (fun _ => rfl) (EV.lst (ES.cons (fun _ => rfl) (EV.listW W rfl rfl rfl (EV.sliceB hs hz2 ?_))))
    wtm_at "m_run"
    refine ⟨rfl, ?_⟩
    wtm_at "m_run"
    intro r hr
    rw [hcut]
    have er : (H2.set r (.list ((ns.take 24).map .int))) r = some (.list ((ns.take 24).map .int)) := AH.set_self _ _ _
    generalize H2.set r (.list ((ns.take 24).map .int)) = H3 at er ⊢
    refine ⟨_, _, rfl, er, by rw [List.length_map, List.length_take]; omega, fun l hl => ?_⟩
    have el : (H3.set l (.list ((ns.take 24).map .int))) l = some (.list ((ns.take 24).map .int)) := AH.set_self _ _ _
    generalize H3.set l (.list ((ns.take 24).map .int)) = H4 at el ⊢
    wtm_at "m_run"
    refine ⟨few (by simp), fun b hb => ?_⟩
    wtm_at "m_run"
    exact ⟨rfl, b, l, rfl, ⟨ns.take 24, s, AH.set_self _ _ _, set_old hb el, s0, s1, by rw [List.length_take]; omega⟩⟩
  clear g1 g2
  rintro ρ3 H3 ⟨b, l, g1, B⟩
  clear H2 H1 ρ2 ρ1
  refine SXs.cons (SX.cutJ (J36_3 k b l) ?_ ?_)
  · wtm_at "m_run"
    refine law_proto_nc W WC B fun x1 H4 P1 ld1 k1 B4 nx1 nd1 hP1 nod1 new1 sz1 gd1 ln1 cs1 kd1 un1 sr1 up1 mx1 vv1 le1 len1 => ?_
    wtm_at "m_run"
    refine law_proto_nc W WC B4 fun x2 H5 P2 ld2 k2 B5 nx2 nd2 hP2 nod2 new2 sz2 gd2 ln2 cs2 kd2 un2 sr2 up2 mx2 vv2 le2 len2 => ?_
    wtm_at "m_run"
    have i1 : (H4 P1.d).isSome = true := by rw [hP1.id]; rfl
    have v1 := vv1 P1.d (.inr rfl)
    have v1' : All2 (VAtN P2.d k H4) P1.locs (ld1.map vdD) := All2.mono (fun a b' h => h.vat.toN nd2) v1
    have v2 := vv2 P2.d (.inr rfl)
    have v2' := vv2 P1.d (.inl i1)
    refine ⟨_, _, rfl, rfl, g1, x1, x2, P1, P2, ld1, ld2, H5.del2 b l, rfl, rfl, del2_le, del2_b, del2_l, B5, ?_, ?_, ?_, sz1, sz2, ⟨nod1, gd1, ln1, cs1, un1, sr1, up1, mx1, le1, len1⟩, ⟨nod2, gd2, ln2, cs2, un2, sr2, up2, mx2, le2, len2⟩, kd1, kd2, ?_, ?_⟩
    · exact hP1.kb B4 B new1 (kb_del2 k2)
    · exact hP2.kb B5 B4 new2 (kb_del2 (KB.refl _ _ _))
    · intro e; have := hP1.id; rw [e, nd2] at this; cases this
    · exact All2.mono (fun a b' h => VAtA.of (h.1.kb B4 (kb_del2 k2)) (h.2.kb B4 (kb_del2 k2))) (All2.and v1 v1')
    · exact All2.mono (fun a b' h => VAtA.of (h.1.kb B5 (kb_del2 (KB.refl _ _ _))) (h.2.kb B5 (kb_del2 (KB.refl _ _ _)))) (All2.and v2' v2)
  clear g1 B H3 ρ3
  rintro ρ4 H4 ⟨g1, x1, x2, P1, P2, ld1, ld2, Hs, g2, g3, ls, sb, sl, B, hP1, hP2, nd, sz1, sz2, bt1, bt2, kd1, kd2, v1, v2⟩
  obtain ⟨A, hA⟩ : ∃ A : Addr → Prop, A = fun c => c = P1.d ∨ c = P2.d := ⟨_, rfl⟩
  have hA1 : A P1.d := by rw [hA]; exact .inl rfl
  have hA2 : A P2.d := by rw [hA]; exact .inr rfl
  rw [← hA] at v1 v2
  clear hA
  -- old.protos
  refine SXs.cons (SX.cutJ (J36_4 k b l x1 x2 P1 P2 ld1 ld2 A) ?_ ?_)
  · wtm_at "m_run"
    refine ⟨few (by simp), fun a ha => ?_⟩
    have hsa := ls.none ha
    obtain ⟨q1, q2⟩ := hP1.putKids [.ref x2] bt1.nod hsa (by omega)
    have e1 := hP1.id
    have hP1f := hP1.le ls
    have hdb : P1.d ≠ b := ne_ns e1 sb
    have hdl : P1.d ≠ l := ne_ns e1 sl
    have kpd := Kp.set P1.d (Hs.set a (.list [.ref x2])) (.flds (fset P1.fs "protos" (.ref a)))
    have e1a := set_old (o := .list [.ref x2]) hsa e1
    have la := le_set (o := .list [.ref x2]) hsa
    wtm_at "m_run"
    refine ⟨x1, _, P1.d, P1.fs, _, rfl, set_old ha hP1f.ix, set_old ha (ls _ _ e1), WC.clsP, List.mem_of_elem_eq_true rfl, by omega, ?_⟩
    wtm_at "m_run"
    have hba : b ≠ a := fun e => by (obtain ⟨_, _, h, _⟩ := B; rw [e, ha] at h; cases h)
    have hla : l ≠ a := fun e => by (obtain ⟨_, _, _, h, _⟩ := B; rw [e, ha] at h; cases h)
    refine ⟨rfl, g1, g2, g3, { P1 with fs := fset P1.fs "protos" (.ref a), lp := a, kids := [.ref x2] }, (Hs.set a (.list [.ref x2])).set P1.d (.flds (fset P1.fs "protos" (.ref a))), rfl, set_mono (set_mono ls), ?_, ?_, (B.le (le_set ha)).kp' hdb.symm hdl.symm (Kp.set _ _ _), q1, ?_, ?_, rfl, ?_, ?_⟩
    · rw [AH.set_ne _ _ hdb.symm, AH.set_ne _ _ hba]; exact sb
    · rw [AH.set_ne _ _ hdl.symm, AH.set_ne _ _ hla]; exact sl
    · exact (hP2.le la).kpD e1a (Ne.symm nd) kpd
    · exact ⟨q2, bt1.good, bt1.lines, bt1.consts, bt1.upn, bt1.src, bt1.upc, bt1.mx, bt1.le, bt1.len⟩
    · exact All2.mono (fun a b' h => (h.le la).kp hA1 e1a kpd) v1
    · exact All2.mono (fun a b' h => (h.le la).kp hA1 e1a kpd) v2
  have e1d := hP1.id
  clear g1 g2 g3 ls sb sl B v1 hP1 bt1 kd1 v2 hP2
  rintro ρ5 H5 ⟨g1, g2, g3, Q1, Ht, ed, ls, sb, sl, B, hP1, hP2, bt1, kd1, v1, v2⟩
  have nd' : Q1.d ≠ P2.d := by rw [ed]; exact nd
  replace hA1 : A Q1.d := by rw [ed]; exact hA1
  clear nd sz1 ed e1d P1 Hs H4 ρ4
  have hheld : ∀ {Hx Hz : AH} {x : Addr} {P : PV} {ld : List NmD}, Hz.le Hx → PAt k Hz x P → All2 (VAtA A k Hz) P.locs (ld.map vdD) → Bt P ld →
      NC G (n + 9) "_law_held" [.ref x] (fun v H' => ∃ H2, (∃ f, v = .ref f ∧ Hz.le H2 ∧ Rd H2 (.lstOf HeldTy) (.ref f) (held P.code P.lines ld [5] 2 8 #[64, 115])) ∧ H2.le H' ∧ ∀ c o, Hx c = some o → Hz c = none → H' c = some o ∧ H2 c = none) Hx := fun {Hx Hz x P ld} l hP v bt =>
    NC.frame l (law_held_nc W WC hP (All2.mono (fun a b' h => h.vat) v) bt.good.len.2 (by rw [bt.lines]; exact bt.good.len.2) (by rw [v.length, List.length_map]; have := bt.len; omega) bt.consts (by simp) bt.upc bt.mx bt.src fun f H' l' r => ⟨f, rfl, l', r⟩)
  refine SXs.cons (SX.cutJ (J36_5 b l x1 x2 P2 ld1 ld2 Q1 Ht) ?_ ?_)
  · wtm_at "m_run"
    refine (hheld ls hP1 v1 bt1).mono ?_
    rintro v H6 ⟨H7, ⟨f1, rfl, l7, r7⟩, l67, a7⟩
    obtain ⟨B6, sb7, sl7⟩ := B.aside sb sl a7
    wtm_at "m_run"
    refine (hheld l67 (hP2.le l7) (All2.mono (fun a b' h => h.le l7) v2) bt2).mono ?_
    rintro v H8 ⟨H9, ⟨f2, rfl, l9, r9⟩, l89, a9⟩
    obtain ⟨B8, sb9, sl9⟩ := B6.aside sb7 sl7 a9
    wtm_at "m_run"
    exact ⟨_, _, rfl, rfl, g1, g2, g3, f1, f2, H9, rfl, rfl, l7.trans l9, l89, sb9, sl9, B8, Rd.le l9 r7, r9⟩
  clear g1 g2 g3 ls sb sl B
  rintro ρ6 H6 ⟨g1, g2, g3, f1, f2, Hs, g4, g5, lt, ls, sb, sl, B, r1, r2⟩
  replace hP1 := hP1.le lt
  replace hP2 := hP2.le lt
  replace v1 := All2.mono (fun a b' h => VAtA.le h lt) v1
  replace v2 := All2.mono (fun a b' h => VAtA.le h lt) v2
  clear lt Ht H5 ρ5 hheld
  -- inner.protos
  refine SXs.cons (SX.cutJ (J36_6 k b l x1 x2 P2 ld1 ld2 A Q1 f1 f2) ?_ ?_)
  · wtm_at "m_run"
    refine EV.newProto WC rfl rfl fun x3 H7 P3 hN p0 p1 p2 p3 p4 p5 p6 p7 p8 p9 p10 p11 p12 p13 => ?_
    have ls7 := ls.trans hN.le
    have B7 := B.le hN.le
    have off := hN.new
    have n3 : Hs P3.d = none := ls.none hN.nd
    wtm_at "m_run"
    refine ⟨few (by simp), fun a ha => ?_⟩
    have hsa := ls7.none ha
    obtain ⟨q1, q2⟩ := hP2.putKids [.ref x3] bt2.nod hsa (by omega)
    have e2 := hP2.id
    have hP2f := hP2.le ls7
    have hdb : P2.d ≠ b := ne_ns e2 sb
    have hdl : P2.d ≠ l := ne_ns e2 sl
    have kpd := Kp.set P2.d (Hs.set a (.list [.ref x3])) (.flds (fset P2.fs "protos" (.ref a)))
    have kpf := Kp.set P2.d (H7.set a (.list [.ref x3])) (.flds (fset P2.fs "protos" (.ref a)))
    have e2a := set_old (o := .list [.ref x3]) hsa e2
    have e2f := set_old (o := .list [.ref x3]) ha (ls7 _ _ e2)
    have la := le_set (o := .list [.ref x3]) hsa
    have laf := le_set (o := .list [.ref x3]) ha
    have n23 : P3.d ≠ P2.d := ne_sn n3 e2
    wtm_at "m_run"
    refine ⟨x2, _, P2.d, P2.fs, _, rfl, set_old ha hP2f.ix, e2f, WC.clsP, List.mem_of_elem_eq_true rfl, by omega, ?_⟩
    wtm_at "m_run"
    have hba : b ≠ a := fun e => by (obtain ⟨_, _, h, _⟩ := B7; rw [e, ha] at h; cases h)
    have hla : l ≠ a := fun e => by (obtain ⟨_, _, _, h, _⟩ := B7; rw [e, ha] at h; cases h)
    refine ⟨rfl, g1, g2, g3, g4, g5, { P2 with fs := fset P2.fs "protos" (.ref a), lp := a, kids := [.ref x3] }, P3, x3, (Hs.set a (.list [.ref x3])).set P2.d (.flds (fset P2.fs "protos" (.ref a))), set_mono (set_mono ls7), ?_, ?_, (B7.le laf).kp' hdb.symm hdl.symm kpf, ?_, q1, ⟨q2, bt2.good, bt2.lines, bt2.consts, bt2.upn, bt2.src, bt2.upc, bt2.mx, bt2.le, bt2.len⟩, rfl, rfl, rfl, ?_, ?_, ?_, ?_, ?_, (hN.at_.le laf).kpD e2f n23 kpf, hN.nod, by omega, p3, p4, p5, p6, ?_⟩
    · rw [AH.set_ne _ _ hdb.symm, AH.set_ne _ _ hba]; exact sb
    · rw [AH.set_ne _ _ hdl.symm, AH.set_ne _ _ hla]; exact sl
    · exact (hP1.le la).kpD e2a nd' kpd
    · exact All2.mono (fun a b' h => (h.le la).kp hA2 e2a kpd) v1
    · exact All2.mono (fun a b' h => (h.le la).kp hA2 e2a kpd) v2
    · exact Rd.kpF e2a kpd (Rd.le la r1)
    · exact Rd.kpF e2a kpd (Rd.le la r2)
    · rw [AH.set_ne _ _ n23, AH.set_ne _ _ (ne_ns hN.at_.id ha)]; exact n3
    · obtain ⟨o1, o2, o3, o4, o5, o6⟩ := off
      rintro c (rfl | rfl | rfl | rfl | rfl | rfl)
      · exact B.off o1
      · exact B.off o2
      · exact B.off o3
      · exact B.off o4
      · exact B.off o5
      · exact B.off o6
  clear g1 g2 g3 g4 g5 ls sb sl B hP1 v1 r1 r2
  rintro ρ7 H7 ⟨g1, g2, g3, g4, g5, Q2, P3, x3, Ht, ls, sb, sl, B, hP1, hQ2, bt2', c2, l2, kd2', v1, v2', r1, r2, n3, hP3, nod3, sz3, cs3, lc3, kd3, un3, off3⟩
  rw [← c2, ← l2] at r2
  clear c2 l2 kd2 hP2 v2 bt2 sz2 hA1 hA2 nd' P2
  have hkd2 : ∀ {Hx : AH}, Ht.le Hx → Hx Q2.lp = some (.list [.ref x3]) := fun l' => by rw [← kd2']; exact (hQ2.le l').kids
  refine SXs.cons (SX.cutJ (J36_7 k b l x1 x2 f1 f2 x3 Ht) ?_ ?_)
  · wtm_at "m_run"
    refine law_word_nc W (by decide) (by decide) (by decide) ?_
    wtm_at "m_run"
    refine ⟨few (by simp), fun a3 ha3 => ?_⟩
    refine gen_alloc ha3 fun G1 m1 h1 => ?_
    wtm_at "m_run"
    refine ⟨few (by simp), fun t3 ht3 => ?_⟩
    refine gen_alloc ht3 fun G2 m2 h2 => ?_
    have hP3a := hP3.le (m1.trans m2)
    have lt2 := ls.trans (m1.trans m2)
    have hQa := hQ2.le lt2
    have hk2 := hkd2 lt2
    have nb3 : a3 ≠ b ∧ a3 ≠ l := B.off ha3
    have h1' := m2 _ _ h1
    wtm_at "m_run"
    refine GI.list hk2 (by decide) (by decide) (v := .ref x3) rfl ?_
    refine ⟨x3, _, P3.d, P3.fs, _, rfl, hP3a.ix, hP3a.id, WC.clsP, List.mem_of_elem_eq_true rfl, by omega, ?_⟩
    wtm_at "m_w1"
    refine gen_set fun E1 q1 e1 => ?_
    have lt3 := le_kp lt2 n3 q1
    have hQb := hQ2.le lt3
    have hk3 := hkd2 lt3
    have hxd : x3 ≠ P3.d := ne_ss hP3.ix hP3.id (by intro h; cases h)
    wtm_at "m_run"
    refine GI.list hk3 (by decide) (by decide) (v := .ref x3) rfl ?_
    refine ⟨x3, _, P3.d, _, _, rfl, q1 _ _ hxd hP3a.ix, e1, WC.clsP, List.mem_of_elem_eq_true rfl, by simp only [fset, List.length_cons]; omega, ?_⟩
    wtm_at "m_run"
    have kq := q1.trans (Kp.set P3.d E1 (.flds (fset (fset P3.fs "upvalue_count" (.int 2)) "code" (.ref a3))))
    have hL : ∀ {c : Addr} {vs : List AV}, H7 c = some (.list vs) → (E1.set P3.d (.flds (fset (fset P3.fs "upvalue_count" (.int 2)) "code" (.ref a3)))) c = some (.list vs) := fun e => kq _ _ (ne_ss e hP3.id (by intro h; cases h)) ((m1.trans m2) _ _ e)
    have nd3 : a3 ≠ P3.d := ne_sn ha3 hP3.id
    have hdb : P3.d ≠ b := by obtain ⟨us, e⟩ := B.lists.1; exact ne_ss hP3.id e (by intro h; cases h)
    have hdl : P3.d ≠ l := by obtain ⟨us, e⟩ := B.lists.2; exact ne_ss hP3.id e (by intro h; cases h)
    refine ⟨rfl, g1, g2, g3, g4, g5, { P3 with lc := a3, code := [8388638], upc := .int 2, fs := fset (fset P3.fs "upvalue_count" (.int 2)) "code" (.ref a3) }, le_kp lt2 n3 kq, (B.le (m1.trans m2)).kp' hdb.symm hdl.symm kq, n3, ⟨kq _ _ hxd hP3a.ix, AH.set_self _ _ _, ?_, PV.tabI rfl (hP3.tab "line_info" _ rfl) (hP3.tab "constants" _ rfl) (hP3.tab "locals" _ rfl) (hP3.tab "protos" _ rfl) (hP3.tab "upvalue_names" _ rfl) (hP3.tab "source" _ rfl) (hP3.tab "line_defined" _ rfl) (hP3.tab "last_line" _ rfl) rfl (hP3.tab "param_count" _ rfl) (hP3.tab "is_vararg" _ rfl) (hP3.tab "max_stack" _ rfl),
      kq _ _ nd3 h1', hL hP3.lines, hL hP3.consts, hL hP3.locs, hL hP3.kids, hL hP3.upn⟩, ?_, ?_, rfl, rfl, cs3, lc3, kd3, un3, ?_⟩
    · show (fset (fset _ _ _) _ _).length ≤ 400; simp only [fset, List.length_cons]; omega
    · have m1 : P3.ll ≠ a3 := ne_ns hP3.lines ha3
      have m2 : P3.lk ≠ a3 := ne_ns hP3.consts ha3
      have m3 : P3.lv ≠ a3 := ne_ns hP3.locs ha3
      have m4 : P3.lp ≠ a3 := ne_ns hP3.kids ha3
      have m5 : P3.lu ≠ a3 := ne_ns hP3.upn ha3
      unfold PNd at nod3 ⊢
      simp only [List.nodup_cons, List.mem_cons, List.not_mem_nil, or_false, not_or] at nod3 ⊢
      exact ⟨⟨m1.symm, m2.symm, m3.symm, m4.symm, m5.symm⟩, nod3.2⟩
    · show (fset (fset _ _ _) _ _).length ≤ 32; simp only [fset, List.length_cons]; omega
    · rintro c (rfl | rfl | rfl | rfl | rfl | rfl)
      · exact nb3
      · exact off3 _ (.inr (.inl rfl))
      · exact off3 _ (.inr (.inr (.inl rfl)))
      · exact off3 _ (.inr (.inr (.inr (.inl rfl))))
      · exact off3 _ (.inr (.inr (.inr (.inr (.inl rfl)))))
      · exact off3 _ (.inr (.inr (.inr (.inr (.inr rfl)))))
  clear g1 g2 g3 g4 g5 ls B n3 hP3 nod3 sz3 cs3 lc3 kd3 un3 off3 P3
  rintro ρ8 H8 ⟨g1, g2, g3, g4, g5, P3, ls, B, n3, hP3, nod3, sz3, co3, uc3, cs3, lc3, kd3, un3, off3⟩
  clear H7 ρ7
  refine SXs.cons (SX.cutJ (J36_8 k b l x1 x2 f1 f2 x3 Ht) ?_ ?_)
  · wtm_at "m_run"
    refine ⟨few (by simp), fun a3 ha3 => ?_⟩
    refine gen_alloc ha3 fun G1 m1 h1 => ?_
    have hP3a := hP3.le m1
    have lt2 := ls.trans m1
    have hQa := hQ2.le lt2
    have hk2 := hkd2 lt2
    have nb3 : a3 ≠ b ∧ a3 ≠ l := B.off ha3
    wtm_at "m_run"
    refine GI.list hk2 (by decide) (by decide) (v := .ref x3) rfl ?_
    refine ⟨x3, _, P3.d, P3.fs, _, rfl, hP3a.ix, hP3a.id, WC.clsP, List.mem_of_elem_eq_true rfl, by omega, ?_⟩
    wtm_at "m_run"
    have hxd : x3 ≠ P3.d := ne_ss hP3.ix hP3.id (by intro h; cases h)
    have kq := Kp.set P3.d G1 (.flds (fset P3.fs "line_info" (.ref a3)))
    have hL : ∀ {c : Addr} {vs : List AV}, H8 c = some (.list vs) → (G1.set P3.d (.flds (fset P3.fs "line_info" (.ref a3)))) c = some (.list vs) := fun e => kq _ _ (ne_ss e hP3.id (by intro h; cases h)) (m1 _ _ e)
    have nd3 : a3 ≠ P3.d := ne_sn ha3 hP3.id
    have hdb : P3.d ≠ b := by obtain ⟨us, e⟩ := B.lists.1; exact ne_ss hP3.id e (by intro h; cases h)
    have hdl : P3.d ≠ l := by obtain ⟨us, e⟩ := B.lists.2; exact ne_ss hP3.id e (by intro h; cases h)
    refine ⟨rfl, g1, g2, g3, g4, g5, { P3 with ll := a3, lines := [1], fs := fset P3.fs "line_info" (.ref a3) }, le_kp lt2 n3 kq, (B.le m1).kp' hdb.symm hdl.symm kq, ⟨kq _ _ hxd hP3a.ix, AH.set_self _ _ _, ?_, PV.tabI (hP3.tab "code" _ rfl) rfl (hP3.tab "constants" _ rfl) (hP3.tab "locals" _ rfl) (hP3.tab "protos" _ rfl) (hP3.tab "upvalue_names" _ rfl) (hP3.tab "source" _ rfl) (hP3.tab "line_defined" _ rfl) (hP3.tab "last_line" _ rfl) (hP3.tab "upvalue_count" _ rfl) (hP3.tab "param_count" _ rfl) (hP3.tab "is_vararg" _ rfl) (hP3.tab "max_stack" _ rfl),
      hL hP3.code, kq _ _ nd3 h1, hL hP3.consts, hL hP3.locs, hL hP3.kids, hL hP3.upn⟩, co3, rfl, uc3, cs3, lc3, kd3, un3, ?_⟩
    · show (fset _ _ _).length ≤ 400; simp only [fset, List.length_cons]; omega
    · rintro c (rfl | rfl | rfl | rfl | rfl | rfl)
      · exact off3 _ (.inl rfl)
      · exact nb3
      · exact off3 _ (.inr (.inr (.inl rfl)))
      · exact off3 _ (.inr (.inr (.inr (.inl rfl))))
      · exact off3 _ (.inr (.inr (.inr (.inr (.inl rfl)))))
      · exact off3 _ (.inr (.inr (.inr (.inr (.inr rfl)))))
  clear g1 g2 g3 g4 g5 ls B n3 hP3 nod3 sz3 co3 uc3 cs3 lc3 kd3 un3 off3 P3
  rintro ρ9 H9 ⟨g1, g2, g3, g4, g5, P3, ls, B, hP3, co3, li3, uc3, cs3, lc3, kd3, un3, off3⟩
  clear H8 ρ8
  have lz := le_del2 ls sb sl
  have hP1z := hP1.le lz
  have hP2z := hQ2.le lz
  have hP3z := hP3.del2 B off3
  have v1z := All2.mono (fun a b' h => (VAtA.le h lz).vat) v1
  have v2z := All2.mono (fun a b' h => (VAtA.le h lz).vat) v2'
  have r1z := Rd.le lz r1
  have r2z := Rd.le lz r2
  have zb : H9.del2 b l b = none := del2_b
  have zl : H9.del2 b l l = none := del2_l
  have zle : (H9.del2 b l).le H9 := del2_le
  generalize H9.del2 b l = Hz at lz hP1z hP2z hP3z v1z v2z r1z r2z zb zl zle
  clear hP1 hQ2 hP3 v1 v2' r1 r2 sb sl ls hkd2 lz Ht off3
  have dd3 : ∀ Hx, Hz.le Hx → NC G (n + 7) "drop_dead" [.ref x3] (fun v' H'' => Hx.le H'' ∧ True) Hx := fun Hx lx =>
    (drop_for W WC (K := fun _ _ _ => True) (ld := []) (fun _ _ _ _ _ h => h) (hP3z.le lx) (by rw [lc3]; trivial) (fun d h => by cases h) (by decide) (by rw [co3, li3]; rfl) (by rw [co3]; exact good1) (by rw [cs3]; decide) (by rw [kd3]; decide) (by rw [un3]; decide)
      (fun s w hS e h => by
        rw [co3] at e
        have : w = 8388638 := by
          have hs : s < 1 := (List.getElem?_eq_some_iff.mp e).1
          obtain rfl : s = 0 := by omega
          exact (Option.some.inj e).symm
        rw [this] at h; exact absurd h (by decide)) (fun v hv => by rw [kd3] at hv; cases hv)).mono fun v H' h => ⟨h.1, trivial⟩
  have dd2 : ∀ Hx, Hz.le Hx → NC G (n + 1 + 7) "drop_dead" [.ref x2] (fun v' H'' => Hx.le H'' ∧ ∃ y Py, v' = .ref y ∧ For k H'' y Py Q2 ld2) Hx := fun Hx lx =>
    (drop_for W WC (K := fun _ _ _ => True) (fun _ _ _ _ _ h => h) (hP2z.le lx) (VAts.le lx v2z) bt2'.le bt2'.len bt2'.lines bt2'.good (by rw [bt2'.consts]; decide) (by rw [kd2']; simp) (by rw [bt2'.upn]; decide)
      (fun s w hS e h => ⟨x3, P3, by rw [kd2']; rfl, hP3z.le lx, uc3⟩) (fun v hv H' l' => by
        rw [kd2'] at hv; simp at hv; subst hv
        exact dd3 H' (lx.trans l'))).mono fun v H' ⟨h1, y, Py, e, h2, _⟩ => ⟨h1, y, Py, e, h2⟩
  have dd1 := drop_for (n := n + 2) W WC (H := Hz) (K := fun _ v' H'' => ∃ y Py, v' = .ref y ∧ For k H'' y Py Q2 ld2) (fun _ _ _ _ l' ⟨y, Py, e, h⟩ => ⟨y, Py, e, h.le l'⟩) hP1z v1z bt1.le bt1.len bt1.lines bt1.good (by rw [bt1.consts]; decide) (by rw [kd1]; simp) (by rw [bt1.upn]; decide)
      (fun s w hS e h => ⟨x2, Q2, by rw [kd1]; rfl, hP2z, bt2'.upc⟩) (fun v hv H' l' => by
        rw [kd1] at hv; simp at hv; subst hv
        exact dd2 H' l')
  refine SXs.cons (SX.cutJ (J36_9 k b l x1 x2 ld1 ld2 Q1 f1 f2 Q2 Hz) ?_ ?_)
  · wtm_at "m_run"
    refine (dd1.frame zle).mono ?_
    rintro v H' ⟨H2, ⟨l2, y1, R1, rfl, f1', kk⟩, l2', as⟩
    obtain ⟨B', b2, b3⟩ := B.aside zb zl as
    rw [kd1] at kk
    obtain ⟨v2, hv2, y2, R2, rfl, f2'⟩ := All2.one kk
    wtm_at "m_run"
    exact ⟨rfl, g1, g2, g3, g4, g5, y1, y2, R1, R2, H2, rfl, l2, l2', b2, b3, B', f1', hv2, f2'⟩
  clear dd1 dd2 dd3 g1 g2 g3 g4 g5 B zle zb zl
  rintro ρ10 H10 ⟨g1, g2, g3, g4, g5, y1, y2, R1, R2, Hs, g6, lz, ls, sb, sl, B, fo1, rk, fo2⟩
  clear H9 ρ9
  have hRk := (fo1.at_.le ls).kids
  have hRa := fo1.at_.le ls
  have hPa := hP1z.le (lz.trans ls)
  have hPk := hPa.kids
  rw [rk] at hRk
  rw [kd1] at hPk
  wtm_at "m_run"
  refine ⟨_, _, rfl, LenIs.of hRk (by simp), ?_⟩
  wtm_at "m_run"
  refine ife_ne (fun h => absurd rfl h) fun _ => ?_
  wtm_at "m_run"
  refine ⟨_, _, rfl, LenIs.of hPk (by simp), ?_⟩
  wtm_at "m_run"
  refine ife_ne (fun h => absurd rfl h) fun _ => ?_
  wtm_at "m_run"
  refine law_right_nc W WC ls sb sl B (hP1z.le lz) (VAts.le lz v1z) bt1.good bt1.lines bt1.le (Nat.le_trans bt1.len (by decide)) bt1.consts (by decide) bt1.upc bt1.mx bt1.src (Rd.le lz r1z) fo1.at_ fo1.locs fo1.code fo1.lines fo1.consts fo1.upc fo1.mx fo1.src fun H11 l11 B11 => ?_
  have hR11 := fo1.at_.le l11
  have hRk11 := hR11.kids
  rw [rk] at hRk11
  wtm_at "m_run"
  refine ife_n (fun h => by cases h) fun _ => ?_
  wtm_at "m_run"
  refine GI.list hRk11 (by decide) (by decide) (v := .ref y2) rfl ?_
  wtm_at "m_run"
  refine law_right_nc W WC l11 sb sl B11 (hP2z.le lz) (VAts.le lz v2z) bt2'.good bt2'.lines bt2'.le (Nat.le_trans bt2'.len (by decide)) bt2'.consts (by decide) bt2'.upc bt2'.mx bt2'.src (Rd.le lz r2z) fo2.at_ fo2.locs fo2.code fo2.lines fo2.consts fo2.upc fo2.mx fo2.src fun H12 l12 B12 => ?_
  exact rfl
end

theorem mg_K {K : Frag} {h : Heap} {mg : Str → Option Value} {a : Addr} (X : K.In h) (N : h.Ns a mg) {x : Str} {r : Option Value} (e : nsIn K a x = some r) : mg x = r := by
  obtain ⟨o, es, ep, ho, hd, _, hn⟩ := N
  unfold nsIn at e
  split at e
  · rename_i c d es' n sl hl
    have h1 := X _ _ hl
    rw [ho] at h1
    cases h1
    cases hd
    rw [← hn x]
    unfold nsFind findBy
    rw [← Array.find?_toList]
    split at e
    · rename_i en he; cases e; rw [he]; rfl
    · rename_i he
      rw [he]
      split at e
      · cases e
      · cases e; rfl
  · cases e
theorem filterMap_congr' {α β : Type} {f g : α → Option β} : ∀ {l : List α}, (∀ n ∈ l, f n = g n) → l.filterMap f = l.filterMap g
  | [], _ => rfl
  | a :: l, h => by
    rw [List.filterMap_cons, List.filterMap_cons, h a List.mem_cons_self, filterMap_congr' fun n hn => h n (List.mem_cons_of_mem _ hn)]
/-- plain parameters -/
noncomputable def plainArgs (p : Arguments) : Bool := p.posonlyargs.isEmpty && p.vararg.isNone && p.kwonlyargs.isEmpty && p.kwarg.isNone && decide (p.args.map (·.arg)).Nodup
noncomputable def isNoneV : Value → Bool
  | .none => true
  | _ => false
theorem bind_plain {fd : FuncData} (hp : plainArgs fd.params = true) (hd : isNoneV fd.defaults = true) {xs : List Value} (hx : xs.length = (fd.params.args.map (·.arg)).length) : bindArgs fd ⟨xs, []⟩ = pure ((fd.params.args.map (·.arg)).zip xs) := by
  obtain ⟨name, qual, params, body, scope, gl, cl, dV, kV, doc, pm, an, cd, ct, bl⟩ := fd
  obtain ⟨po, as, va, ko, kd, kw, df⟩ := params
  simp only [plainArgs, Bool.and_eq_true, List.isEmpty_iff, Option.isNone_iff_eq_none, decide_eq_true_eq] at hp
  obtain ⟨⟨⟨⟨rfl, rfl⟩, rfl⟩, rfl⟩, nd⟩ := hp
  cases dV <;> first | (exfalso; exact Bool.false_ne_true hd) | skip
  simp only [] at nd hx
  generalize hps : as.map (·.arg) = ps at nd hx
  have hlk : ∀ (ps : List Str) (xs : List Value), xs.length = ps.length → ∀ p ∈ ps, ((ps.zip xs).lookup p).isSome = true := by
    intro ps
    induction ps with
    | nil => intro xs _ p hp; cases hp
    | cons q r ih =>
      intro xs h p hp
      cases xs with
      | nil => simp at h
      | cons y ys =>
        rw [List.zip_cons_cons, List.lookup_cons]
        split
        · rfl
        · rename_i hne
          rcases List.mem_cons.mp hp with e | e
          · subst e; simp at hne
          · exact ih ys (by simpa using h) p e
  have hfm : ∀ (ps : List Str) (xs : List Value), xs.length = ps.length → ps.Nodup → ps.filterMap (fun n => ((ps.zip xs).lookup n).map (n, ·)) = ps.zip xs := by
    intro ps
    induction ps with
    | nil => intro xs _ _; rfl
    | cons q r ih =>
      intro xs h nd
      cases xs with
      | nil => simp at h
      | cons y ys =>
        rw [List.nodup_cons] at nd
        rw [List.filterMap_cons, List.zip_cons_cons, List.lookup_cons]
        simp only [beq_self_eq_true, Option.map_some]
        congr 1
        refine Eq.trans (filterMap_congr' fun n hn => ?_) (ih ys (by simpa using h) nd.2)
        have : (n == q) = false := by
          refine beq_false_of_ne ?_
          rintro rfl; exact nd.1 hn
        rw [List.lookup_cons, this]
  have hmiss : ps.filter (fun n => ((ps.zip xs).lookup n).isNone) = [] := by
    rw [List.filter_eq_nil_iff]
    intro p hp
    have := hlk ps xs hx p hp
    simp [Option.isNone_iff_eq_none, Option.isSome_iff_ne_none] at this ⊢
    exact this
  have hge : ¬ (xs.length > ps.length) := by (first | lia | omega)
  have hs : seqItems? Value.none = pure none := rfl
  unfold bindArgs
  simp [hps, hs, hx, hmiss, hfm ps xs hx nd]
noncomputable def gRef (K : Frag) (x : Str) : Option Addr := match nsIn K mainGlobals x with
  | some (some (.ref a)) => some a
  | _ => none
noncomputable def fdK (K : Frag) (a : Addr) : Option FuncData := match K.lookup a with
  | some o => (match o.data with
    | .func fd => some fd
    | _ => none)
  | none => none
theorem fdK_at {K : Frag} {h : Heap} (X : K.In h) {a : Addr} {fd : FuncData} (e : fdK K a = some fd) : ∃ o, h.get? a = some o ∧ o.data = .func fd := by
  unfold fdK at e
  split at e
  · rename_i o ho
    split at e
    · rename_i fd' hd; cases e; exact ⟨o, X _ _ ho, hd⟩
    · cases e
  · cases e
structure FV where
  (body : FuncBody) (scope : Scope) (globals builtins : Addr) (closure : List (Str × Addr)) (ps : List Str)
noncomputable def fview (fd : FuncData) : FV := ⟨fd.body, fd.scope, fd.globals, fd.builtins, fd.closure, fd.params.args.map (·.arg)⟩
noncomputable def stview (st : Stmt) : FV := ⟨.stmts (fnB st), fnS st, mainGlobals, builtinsNs, [], fnP st⟩
noncomputable def fok (K : Frag) (fd : FuncData) : Bool := codeIn K fd.code fd.qualname && plainArgs fd.params && isNoneV fd.defaults
theorem fnAt_K {G : Gx} {K : Frag} {a : Addr} {fd : FuncData} {st : Stmt} (X : K.In G.base) (e : fdK K a = some fd) (v : fview fd = stview st) (k : fok K fd = true) : FnAt G a (fnP st) (fnB st) (fnS st) := by
  obtain ⟨o, ho, hd⟩ := fdK_at X e
  unfold fok at k
  simp only [Bool.and_eq_true] at k
  obtain ⟨⟨k1, k2⟩, k3⟩ := k
  have v1 : fd.body = .stmts (fnB st) := congrArg FV.body v
  have v2 : fd.scope = fnS st := congrArg FV.scope v
  have v3 : fd.globals = mainGlobals := congrArg FV.globals v
  have v4 : fd.builtins = builtinsNs := congrArg FV.builtins v
  have v5 : fd.closure = [] := congrArg FV.closure v
  have v6 : fd.params.args.map (·.arg) = fnP st := congrArg FV.ps v
  exact ⟨o, fd, ho, hd, v1, v2, v3, v4, v5, codeRec_of X k1, fun xs hx => by rw [← v6] at hx ⊢; exact bind_plain k2 k3 hx⟩
noncomputable def okInt (K : Frag) (x : Str) (i : Int) : Bool := match nsIn K mainGlobals x with
  | some (some (.int j _)) => decide (j = i)
  | _ => false
noncomputable def intsB : List Value → List Int → Bool
  | [], [] => true
  | .int j _ :: r, i :: t => decide (j = i) && intsB r t
  | _, _ => false
theorem intsB_VRs : ∀ {l : List Value} {is : List Int}, intsB l is = true → VRs (is.map .int) l
  | [], [], _ => VRs.nil
  | [], _ :: _, h => by cases h
  | .int j t :: r, i :: q, h => by
    simp only [intsB, Bool.and_eq_true, decide_eq_true_eq] at h
    obtain ⟨rfl, h⟩ := h
    exact VRs.cons (.int _ _) (intsB_VRs h)
  | .int j t :: r, [], h => by cases h
  | .none :: _, _, h => by simp [intsB] at h
  | .bool _ :: _, _, h => by simp [intsB] at h
  | .str _ _ :: _, _, h => by simp [intsB] at h
  | .bytes _ _ :: _, _, h => by simp [intsB] at h
  | .ref _ :: _, _, h => by simp [intsB] at h
  | .float _ _ :: _, _, h => by simp [intsB] at h
  | .type _ :: _, _, h => by simp [intsB] at h
  | .builtin _ :: _, _, h => by simp [intsB] at h
noncomputable def isTupT : Value → Bool
  | .type n => decide (n = "tuple")
  | _ => false
theorem isTupT_eq {v : Value} (h : isTupT v = true) : v = .type "tuple" := by
  cases v <;> first | (exfalso; exact Bool.false_ne_true h) | skip
  rw [of_decide_eq_true h]
noncomputable def okTup (K : Frag) (x : Str) (is : List Int) : Bool := match gRef K x with
  | some a => (match K.lookup a with
    | some o => isTupT o.cls && (match o.data with
      | .seq xs _ => intsB xs.toList is
      | _ => false)
    | none => false)
  | none => false
noncomputable def mRef (K : Frag) (C : Addr) (m : Str) : Option Addr := match findIn K (.ref C) m with
  | some (some (.ref a)) => some a
  | _ => none
noncomputable def kaOf (K : Frag) : KA :=
  { CP := (gRef K "Proto").getD 0, CL := (gRef K "LocalVar").getD 0, CH := (gRef K "HeapObject").getD 0,
    fP := (mRef K ((gRef K "Proto").getD 0) "__init__").getD 0, fL := (mRef K ((gRef K "LocalVar").getD 0) "__init__").getD 0, fH := (mRef K ((gRef K "HeapObject").getD 0) "__init__").getD 0 }
structure ClsChk (K : Frag) (C : Addr) (names : List Str) : Prop where
  c1 : (clsIn K C).any (·.hasDict) = true
  c2 : findIn K (.ref C) "__getattribute__" = some (some (.builtin "object.__getattribute__"))
  c3 : findIn K (.ref C) "__setattr__" = some (some (.builtin "object.__setattr__"))
  c4 : plainOver K C = true
  c5 : names.map (fun f => findIn K (.ref C) f) = names.map fun _ => some none
structure NewChk (K : Frag) (C f : Addr) : Prop where
  n1 : keepIn K (.ref C) = true
  n2 : makesIn K C = true
  n3 : findIn K (.ref C) "__init__" = some (some (.ref f))
  n4 : typeIn K (.ref f) = some (.type "function")
structure Chk (K : Frag) : Prop where
  qInts : intTab.all (fun p => okInt K p.1 p.2) = true
  qTups : tupTab.all (fun p => okTup K p.1 p.2) = true
  qBlts : bltTab.map (fun p => nsIn K mainGlobals p.1) = bltTab.map fun _ => some none
  qBltv : bltTab.map (fun p => bootBuiltins p.1) = bltTab.map fun p => some p.2
  qNames : nmTab.map (fun p => fnN (stAt p.2)) = nmTab.map (·.1)
  qFns : nmTab.map (fun p => ((gRef K p.1).bind (fdK K)).map fview) = nmTab.map fun p => some (stview (stAt p.2))
  qFnok : nmTab.all (fun p => ((gRef K p.1).bind (fdK K)).any (fok K)) = true
  clsP : ClsChk K (kaOf K).CP protoNames
  clsL : ClsChk K (kaOf K).CL varNames
  gP : nsIn K mainGlobals "Proto" = some (some (.ref (kaOf K).CP))
  gL : nsIn K mainGlobals "LocalVar" = some (some (.ref (kaOf K).CL))
  gH : nsIn K mainGlobals "HeapObject" = some (some (.ref (kaOf K).CH))
  newP : NewChk K (kaOf K).CP (kaOf K).fP
  newL : NewChk K (kaOf K).CL (kaOf K).fL
  h1 : specialIn K (.ref (kaOf K).CH) "__getattribute__" = some (some (.builtin "type.__getattribute__"))
  h2 : readsIn K (kaOf K).CH (.type "type") = true
  h3 : findCls K (.ref (kaOf K).CH) (.type "type") "__init__" = some (.val (.ref (kaOf K).fH))
  h4 : keepIn K (.ref (kaOf K).fH) = true
  mP : (fdK K (kaOf K).fP).map fview = some (stview (stIn 44 1))
  mL : (fdK K (kaOf K).fL).map fview = some (stview (stIn 43 0))
  mH : (fdK K (kaOf K).fH).map fview = some (stview (stIn 41 1))
  mPk : (fdK K (kaOf K).fP).any (fok K) = true
  mLk : (fdK K (kaOf K).fL).any (fok K) = true
  mHk : (fdK K (kaOf K).fH).any (fok K) = true
theorem map_mem {α β : Type} {f g : α → β} {l : List α} (h : l.map f = l.map g) {a : α} (m : a ∈ l) : f a = g a := List.map_inj_left.mp h a m
section
variable {G : Gx} {K : Frag} (X : K.In G.base) (C : Chk K)
include X C
theorem ww_of (hb : ∀ x : Str, x ≠ "__name__" → G.mb x = bootBuiltins x) : WW G := by
  refine ⟨fun x i m => ?_, fun x is m => ?_, fun x v m => ?_, fun x i m => ?_⟩
  · have h := List.all_eq_true.mp C.qInts _ m
    unfold okInt at h
    split at h
    · rename_i j t e
      have := of_decide_eq_true h
      subst this
      exact ⟨_, mg_K X G.g e, .int _ _⟩
    · cases h
  · have h := List.all_eq_true.mp C.qTups _ m
    unfold okTup at h
    split at h
    · rename_i a ea
      split at h
      · rename_i o ho
        rw [Bool.and_eq_true] at h
        obtain ⟨h1, h2⟩ := h
        split at h2
        · rename_i xs n hd
          refine ⟨a, ?_, xs, ⟨o, X _ _ ho, isTupT_eq h1, n, hd⟩, intsB_VRs h2⟩
          unfold gRef at ea
          split at ea
          · rename_i a' e; cases ea; exact mg_K X G.g e
          · cases ea
        · cases h2
      · cases h
    · cases h
  · refine ⟨mg_K X G.g (map_mem C.qBlts m), ?_⟩
    rw [hb x ?_]
    · exact map_mem C.qBltv m
    · rintro rfl
      have : ("__name__" : Str) ∈ bltTab.map (·.1) := List.mem_map.mpr ⟨_, m, rfl⟩
      revert this; decide
  · refine ⟨map_mem C.qNames m, ?_⟩
    have h1 := map_mem C.qFns m
    have h2 := List.all_eq_true.mp C.qFnok _ m
    have h3 := map_mem C.qNames m
    simp only at h1 h2 h3
    obtain ⟨fd, e1, e2⟩ := Option.map_eq_some_iff.mp h1
    obtain ⟨a, ea, ef⟩ := Option.bind_eq_some_iff.mp e1
    rw [e1] at h2
    refine ⟨a, ?_, fnAt_K X ef e2 h2⟩
    rw [h3]
    unfold gRef at ea
    split at ea
    · rename_i a' e; cases ea; exact mg_K X G.g e
    · cases ea
theorem meth_of {a : Addr} {st : Stmt} (h1 : (fdK K a).map fview = some (stview st)) (h2 : (fdK K a).any (fok K) = true) : FnAt G a (fnP st) (fnB st) (fnS st) := by
  obtain ⟨fd, e1, e2⟩ := Option.map_eq_some_iff.mp h1
  rw [e1] at h2
  exact fnAt_K X e1 e2 h2
theorem cls_of {c : Addr} {names : List Str} (h : ClsChk K c names) : ClsAt G c names := ⟨K, X, h.c1, h.c2, h.c3, h.c4, fun f m => map_mem h.c5 m⟩
theorem new_of {c f : Addr} (h : NewChk K c f) : NewAt G c f := ⟨K, X, h.n1, h.n2, h.n3, h.n4⟩
theorem wk_of : WK G (kaOf K) :=
  ⟨cls_of X C C.clsP, cls_of X C C.clsL, mg_K X G.g C.gP, mg_K X G.g C.gL, mg_K X G.g C.gH, new_of X C C.newP, new_of X C C.newL, ⟨K, .type "type", X, C.h1, C.h2, C.h3, C.h4⟩, meth_of X C C.mP C.mPk, meth_of X C C.mL C.mLk, meth_of X C C.mH C.mHk⟩
end

theorem ints_VRs {vs : List Value} {ns : List Int} (h : IntsAre vs ns) : VRs (ns.map .int) vs := by
  induction h with
  | nil => exact VRs.nil
  | cons i t _ ih => exact VRs.cons (.int _ _) ih
theorem law_join {prog : Program} {w : World} {s₁ : Shared} {mg mb : Str → Option Value} {K : Frag} (X : K.In s₁.heap) (C : Chk K) (g : s₁.heap.Ns mainGlobals mg) (b : s₁.heap.Ns builtinsNs mb) (nl : s₁.heap.NoLimit)
    (hb : ∀ x : Str, x ≠ "__name__" → mb x = bootBuiltins x) (hg : s₁.gens = #[]) {fa sa : Addr} {cd : Value} {vals : List Value} {ns : List Int} (hL : s₁.heap.IsList sa vals.toArray) (hI : IntsAre vals ns) (hlen : ns.length ≤ 63)
    {h₁ : Heap} {m : Str → Option Value} (F : Fr s₁.heap s₁.heap.objs.size h₁ m) (hm : m "script" = some (.ref sa)) {dr : Drawn} {tk : Nat} {A : Around} (hA : Room A 9) :
    wpAny (model prog w) A (execs (fnB (stAt 72)) (envOf "law" (fnS (stAt 72)) s₁.heap.objs.size fa cd))
      (fun f s' => f = .ret (.bool true) ∧ (∀ b o, s₁.heap.get? b = some o → s'.heap.get? b = some o) ∧ s'.os = s₁.os ∧ s'.gens = #[]) FF { heap := h₁, gens := s₁.gens, drawn := dr, toks := tk, os := s₁.os } := by
  let G : Gx := { prog := prog, w := w, base := s₁.heap, mg := mg, mb := mb, os := s₁.os, g := g, b := b, nolimit := nl }
  have W : WW G := ww_of (G := G) X C hb
  have WC : WK G (kaOf K) := wk_of (G := G) X C
  have nL : s₁.heap.get? s₁.heap.objs.size = none := by
    cases e : s₁.heap.get? s₁.heap.objs.size with
    | none => rfl
    | some o => exact absurd (Heap.lt_size e) (Nat.lt_irrefl _)
  let D : Dyn := ⟨s₁.heap.objs.size, [], "law.<locals>.", some fa, cd, some s₁.heap.objs.size⟩
  let ρ : Loc := fun x => if x = "script" then some (.ref sa) else none
  have S : StF G (fun b => s₁.heap.get? b) (fnS (stAt 72)) D ρ (fun _ => none) { heap := h₁, gens := s₁.gens, drawn := dr, toks := tk, os := s₁.os } := by
    refine ⟨⟨fun _ _ e => e, fun b o e => F.keep b o e, fun _ _ e => (nomatch e), fun _ _ e => (nomatch e), hg, rfl⟩, ⟨⟨m, F.ns, fun x v hx hv => ?_⟩, fun x hx => ?_, nL, rfl, fun x c e => (nomatch e), fun x c e => (nomatch e), fun x y c e => (nomatch e), fun _ x c e => (nomatch e)⟩⟩
    · by_cases h : x = "script"
      · subst h
        have : v = .ref sa := by
          have hv : (if ("script" : Str) = "script" then some (AV.ref sa) else none) = some v := hv
          rw [if_pos rfl] at hv; exact (Option.some.inj hv).symm
        subst this
        exact ⟨_, hm, .ref _⟩
      · have hv : (if x = "script" then some (AV.ref sa) else none) = some v := hv
        rw [if_neg h] at hv; cases hv
    · exfalso
      have h1 := lookup_mem_kind hx
      have h2 : ((fnS (stAt 72)).names.all fun p => p.2 != .cell) = true := by decide
      have := List.all_eq_true.mp h2 _ h1
      have this : (NameKind.cell != NameKind.cell) = true := this
      exact absurd this (by decide)
  have hbody := law_body (n := 0) W WC (ρ := ρ) (H := fun _ => none) (sa := sa) (ns := ns) ⟨vals.toArray, hL, by simpa using ints_VRs hI⟩ (by (first | lia | omega)) (by show (if ("script" : Str) = "script" then some (AV.ref sa) else none) = _; rw [if_pos rfl])
  refine wp_mono (G := G) (hbody A _ D _ hA rfl S) ?_
  rintro f s' ⟨af, ρ', H', hf, S', rfl⟩
  refine ⟨?_, fun b o e => S'.h.keep b o e, S'.h.os, S'.h.gens⟩
  cases hf with
  | ret hv => cases hv; rfl
theorem room_law (env : Env) : Room (callerA.deeper env) 9 := by
  refine ⟨rfl, ?_, ?_⟩
  · show 1 + claimMargin + 1 + 8 * 9 + 16 < recursionLimit; decide
  · show 4 + 3 + 64 * 9 + 256 < cLine; decide

/-- an entry of a namespace -/
noncomputable def ke (P : Params) (x : Str) (t : Nat) (v : Value) : DictEntry := ⟨PyData.keyHash P x, .str x t, v⟩
noncomputable def fnA : Stmt → Arguments
  | .FunctionDef _ as .. => as
  | _ => default
noncomputable def fnPos : Stmt → Pos
  | .FunctionDef _ _ _ _ _ _ _ _ _ p => p
  | _ => ⟨0, 0, 0, 0⟩
noncomputable def kf (st : Stmt) (n q m : Str) (t cd : Nat) : Obj := { cls := .type "function", data := .func { name := n, qualname := q, params := fnA st, body := .stmts (fnB st), scope := fnS st, globals := 3, closure := [], defaults := .none, kwdefaults := .none, pyModule := .str m t, code := .ref cd } }
noncomputable def kc (st : Stmt) (n q : Str) : Obj := { cls := .none, data := .func { name := n, qualname := q, params := fnA st, body := .stmts (fnB st), scope := fnS st, globals := 0, closure := [], defaults := .none, kwdefaults := .none } }
noncomputable def kd (es : Array DictEntry) (n : Nat) : Obj := { cls := .type "dict", data := .dict es n }
noncomputable def kt : Obj := { cls := .type "tuple", data := .seq #[] }
noncomputable def kn : Obj := { cls := .none, data := .fields #[] }
noncomputable def topO0 (P : Params) : List Obj := [
  PySem.W.boot_o_0 P,
  PySem.W.boot_o_1 P,
  PySem.W.boot_o_2 P,
  kd #[ke P "__name__" 165 (.str "law_nt0662_01" 561), ke P "__doc__" 166 (.none), ke P "__package__" 167 (.none), ke P "__loader__" 168 (.builtin "__main__.__loader__#opaque"), ke P "__spec__" 169 (.none), ke P "__annotations__" 170 (.ref 6), ke P "__builtins__" 171 (.ref 4), ke P "__file__" 173 (.str "/claim/cut.py" 172), ke P "__cached__" 174 (.none), ke P "_wall" 193 (.ref 21), ke P "SIZE_OP" 197 (.int 6 196), ke P "SIZE_A" 199 (.int 8 198), ke P "SIZE_B" 201 (.int 9 200), ke P "SIZE_C" 203 (.int 9 202), ke P "SIZE_BX" 205 (.int 18 204), ke P "POS_OP" 207 (.int 0 206), ke P "POS_A" 209 (.int 6 208), ke P "POS_C" 211 (.int 14 210), ke P "POS_B" 213 (.int 23 212), ke P "POS_BX" 214 (.int 14 210), ke P "MAXARG_BX" 219 (.int 262143 218), ke P "MAXARG_SBX" 222 (.int 131071 221), ke P "MAX_WORD" 228 (.int 4294967295 227), ke P "OP_LOADBOOL" 230 (.int 2 229), ke P "OP_JMP" 232 (.int 22 231), ke P "OP_EQ" 234 (.int 23 233), ke P "OP_LT" 236 (.int 24 235), ke P "OP_LE" 238 (.int 25 237), ke P "OP_TEST" 240 (.int 26 239), ke P "OP_TESTSET" 242 (.int 27 241), ke P "OP_RETURN" 244 (.int 30 243), ke P "OP_FORLOOP" 246 (.int 31 245), ke P "OP_FORPREP" 248 (.int 32 247), ke P "OP_TFORLOOP" 250 (.int 33 249), ke P "OP_SETLIST" 252 (.int 34 251), ke P "OP_CLOSURE" 254 (.int 36 253), ke P "field" 263 (.ref 28), ke P "with_field" 274 (.ref 35), ke P "create_abc" 284 (.ref 42), ke P "get_op" 291 (.ref 49), ke P "get_c" 298 (.ref 56), ke P "get_bx" 305 (.ref 63), ke P "get_sbx" 312 (.ref 70), ke P "set_c" 320 (.ref 77), ke P "set_bx" 328 (.ref 84), ke P "set_sbx" 336 (.ref 91), ke P "T_NONE" 341 (.int (-1) 340), ke P "T_PROTO" 343 (.int 9 342), ke P "HeapObject" 376 (.ref 108), ke P "LocalVar" 411 (.ref 129), ke P "Proto" 473 (.ref 171), ke P "TESTS" 476 (.ref 174), ke P "words_of" 485 (.ref 181), ke P "starts_of" 494 (.ref 188), ke P "is_jump" 501 (.ref 195), ke P "target" 509 (.ref 202), ke P "next_places" 520 (.ref 209), ke P "reached" 531 (.ref 216), ke P "copied" 537 (.ref 221), ke P "laid_out" 543 (.ref 226), ke P "without_skips" 554 (.ref 233), ke P "drop_dead" 560 (.ref 238), ke P "_law_tests" 568 (.ref 239), ke P "_law_jumps" 572 (.ref 240), ke P "_law_take" 580 (.ref 247), ke P "_law_word" 590 (.ref 254), ke P "_law_parts" 597 (.ref 261), ke P "_law_distance" 604 (.ref 268), ke P "_law_some" 613 (.ref 275), ke P "_law_proto" 619 (.ref 280), ke P "_law_size" 630 (.ref 287), ke P "_law_next" 642 (.ref 294), ke P "_law_live" 653 (.ref 301), ke P "_law_trace" 671 (.ref 308), ke P "_law_held" 677 (.ref 313), ke P "_law_right" 683 (.ref 318), ke P "law" 698 (.ref 325)] 77,
  PySem.W.boot_o_4 P,
  PySem.W.boot_o_5 P,
  PySem.W.boot_o_6 P,
  PySem.W.boot_o_7 P,
  PySem.W.boot_o_8 P,
  PySem.W.boot_o_9 P,
  PySem.W.boot_o_10 P,
  kt,
  { cls := .none, data := .fields #[.int 1 0, .int 0 0, .ref 20, .int 31 0, .int 0 0, .ref 27, .int 33 0, .int 0 0, .ref 34, .int 36 0, .int 0 0, .ref 41, .int 38 0, .int 0 0, .ref 48, .int 40 0, .int 0 0, .ref 55, .int 42 0, .int 0 0, .ref 62, .int 44 0, .int 0 0, .ref 69, .int 46 0, .int 0 0, .ref 76, .int 48 0, .int 0 0, .ref 83, .int 50 0, .int 0 0, .ref 90, .int 55 0, .int 0 0, .ref 97, .int 63 0, .int 0 0, .ref 118, .int 69 0, .int 0 0, .ref 139, .int 98 0, .int 0 0, .ref 180, .int 105 0, .int 0 0, .ref 187, .int 111 0, .int 0 0, .ref 194, .int 113 0, .int 0 0, .ref 201, .int 115 0, .int 0 0, .ref 208, .int 129 0, .int 0 0, .ref 215, .int 139 0, .int 0 0, .ref 220, .int 155 0, .int 0 0, .ref 225, .int 177 0, .int 0 0, .ref 232, .int 184 0, .int 0 0, .ref 237, .int 195 0, .int 0 0, .ref 246, .int 200 0, .int 0 0, .ref 253, .int 202 0, .int 0 0, .ref 260, .int 204 0, .int 0 0, .ref 267, .int 206 0, .int 0 0, .ref 274, .int 227 0, .int 0 0, .ref 279, .int 246 0, .int 0 0, .ref 286, .int 249 0, .int 0 0, .ref 293, .int 260 0, .int 0 0, .ref 300, .int 269 0, .int 0 0, .ref 307, .int 280 0, .int 0 0, .ref 312, .int 283 0, .int 0 0, .ref 317, .int 301 0, .int 0 0, .ref 324] },
  { cls := .type "code", data := .fields #[.str "<module>" 182, .str "<module>" 183, .str "/claim/cut.py" 184, .int 1 0, .int 0 0, .int 0 0, .int 0 0, .int 0 0, .ref 11, .bool false, .int 181 0, .ref 12, .none, .none, .none, .none, .int 185 0, .int 1 0, .str "/claim/cut.py" 186] },
  { cls := .type "frame", slots := #[some (.ref 13), some (.ref 3), some (.ref 3), none, some (.str "__main__" 164), none, some (.ref 0)] },
  kt,
  kn,
  { cls := .type "tuple", data := .seq #[.str "k" 190] },
  kt,
  kc (stAt 0) "_wall" "_wall",
  { cls := .type "code", data := .fields #[.str "_wall" 187, .str "_wall" 188, .str "/claim/cut.py" 189, .int 1 0, .int 1 0, .int 0 0, .int 0 0, .int 3 0, .ref 15, .bool true, .int 181 0, .ref 16, .none, .ref 17, .ref 18, .ref 19, .int 191 0, .int 1 0, .str "/claim/cut.py" 192] },
  kf (stAt 0) "_wall" "_wall" "__main__" 164 20,
  kt,
  kn,
  { cls := .type "tuple", data := .seq #[.str "word" 258, .str "pos" 259, .str "size" 260] },
  kt,
  kc (stAt 28) "field" "field",
  { cls := .type "code", data := .fields #[.str "field" 255, .str "field" 256, .str "/claim/cut.py" 257, .int 31 0, .int 3 0, .int 0 0, .int 0 0, .int 3 0, .ref 22, .bool true, .int 181 0, .ref 23, .none, .ref 24, .ref 25, .ref 26, .int 261 0, .int 31 0, .str "/claim/cut.py" 262] },
  kf (stAt 28) "field" "field" "lua.opcodes" 194 27,
  kt,
  kn,
  { cls := .type "tuple", data := .seq #[.str "word" 267, .str "value" 268, .str "pos" 269, .str "size" 270, .str "mask" 271] },
  kt,
  kc (stAt 29) "with_field" "with_field",
  { cls := .type "code", data := .fields #[.str "with_field" 264, .str "with_field" 265, .str "/claim/cut.py" 266, .int 33 0, .int 4 0, .int 0 0, .int 0 0, .int 3 0, .ref 29, .bool true, .int 181 0, .ref 30, .none, .ref 31, .ref 32, .ref 33, .int 272 0, .int 33 0, .str "/claim/cut.py" 273] },
  kf (stAt 29) "with_field" "with_field" "lua.opcodes" 194 34,
  kt,
  kn,
  { cls := .type "tuple", data := .seq #[.str "op" 278, .str "a" 279, .str "b" 280, .str "c" 281] },
  kt]
noncomputable def topO1 (P : Params) : List Obj := [
  kc (stAt 30) "create_abc" "create_abc",
  { cls := .type "code", data := .fields #[.str "create_abc" 275, .str "create_abc" 276, .str "/claim/cut.py" 277, .int 36 0, .int 4 0, .int 0 0, .int 0 0, .int 3 0, .ref 36, .bool true, .int 181 0, .ref 37, .none, .ref 38, .ref 39, .ref 40, .int 282 0, .int 36 0, .str "/claim/cut.py" 283] },
  kf (stAt 30) "create_abc" "create_abc" "lua.opcodes" 194 41,
  kt,
  kn,
  { cls := .type "tuple", data := .seq #[.str "word" 288] },
  kt,
  kc (stAt 31) "get_op" "get_op",
  { cls := .type "code", data := .fields #[.str "get_op" 285, .str "get_op" 286, .str "/claim/cut.py" 287, .int 38 0, .int 1 0, .int 0 0, .int 0 0, .int 3 0, .ref 43, .bool true, .int 181 0, .ref 44, .none, .ref 45, .ref 46, .ref 47, .int 289 0, .int 38 0, .str "/claim/cut.py" 290] },
  kf (stAt 31) "get_op" "get_op" "lua.opcodes" 194 48,
  kt,
  kn,
  { cls := .type "tuple", data := .seq #[.str "word" 295] },
  kt,
  kc (stAt 32) "get_c" "get_c",
  { cls := .type "code", data := .fields #[.str "get_c" 292, .str "get_c" 293, .str "/claim/cut.py" 294, .int 40 0, .int 1 0, .int 0 0, .int 0 0, .int 3 0, .ref 50, .bool true, .int 181 0, .ref 51, .none, .ref 52, .ref 53, .ref 54, .int 296 0, .int 40 0, .str "/claim/cut.py" 297] },
  kf (stAt 32) "get_c" "get_c" "lua.opcodes" 194 55,
  kt,
  kn,
  { cls := .type "tuple", data := .seq #[.str "word" 302] },
  kt,
  kc (stAt 33) "get_bx" "get_bx",
  { cls := .type "code", data := .fields #[.str "get_bx" 299, .str "get_bx" 300, .str "/claim/cut.py" 301, .int 42 0, .int 1 0, .int 0 0, .int 0 0, .int 3 0, .ref 57, .bool true, .int 181 0, .ref 58, .none, .ref 59, .ref 60, .ref 61, .int 303 0, .int 42 0, .str "/claim/cut.py" 304] },
  kf (stAt 33) "get_bx" "get_bx" "lua.opcodes" 194 62,
  kt,
  kn,
  { cls := .type "tuple", data := .seq #[.str "word" 309] },
  kt,
  kc (stAt 34) "get_sbx" "get_sbx",
  { cls := .type "code", data := .fields #[.str "get_sbx" 306, .str "get_sbx" 307, .str "/claim/cut.py" 308, .int 44 0, .int 1 0, .int 0 0, .int 0 0, .int 3 0, .ref 64, .bool true, .int 181 0, .ref 65, .none, .ref 66, .ref 67, .ref 68, .int 310 0, .int 44 0, .str "/claim/cut.py" 311] },
  kf (stAt 34) "get_sbx" "get_sbx" "lua.opcodes" 194 69,
  kt,
  kn,
  { cls := .type "tuple", data := .seq #[.str "word" 316, .str "c" 317] },
  kt,
  kc (stAt 35) "set_c" "set_c",
  { cls := .type "code", data := .fields #[.str "set_c" 313, .str "set_c" 314, .str "/claim/cut.py" 315, .int 46 0, .int 2 0, .int 0 0, .int 0 0, .int 3 0, .ref 71, .bool true, .int 181 0, .ref 72, .none, .ref 73, .ref 74, .ref 75, .int 318 0, .int 46 0, .str "/claim/cut.py" 319] },
  kf (stAt 35) "set_c" "set_c" "lua.opcodes" 194 76,
  kt,
  kn]
noncomputable def topO2 (P : Params) : List Obj := [
  { cls := .type "tuple", data := .seq #[.str "word" 324, .str "bx" 325] },
  kt,
  kc (stAt 36) "set_bx" "set_bx",
  { cls := .type "code", data := .fields #[.str "set_bx" 321, .str "set_bx" 322, .str "/claim/cut.py" 323, .int 48 0, .int 2 0, .int 0 0, .int 0 0, .int 3 0, .ref 78, .bool true, .int 181 0, .ref 79, .none, .ref 80, .ref 81, .ref 82, .int 326 0, .int 48 0, .str "/claim/cut.py" 327] },
  kf (stAt 36) "set_bx" "set_bx" "lua.opcodes" 194 83,
  kt,
  kn,
  { cls := .type "tuple", data := .seq #[.str "word" 332, .str "sbx" 333] },
  kt,
  kc (stAt 37) "set_sbx" "set_sbx",
  { cls := .type "code", data := .fields #[.str "set_sbx" 329, .str "set_sbx" 330, .str "/claim/cut.py" 331, .int 50 0, .int 2 0, .int 0 0, .int 0 0, .int 3 0, .ref 85, .bool true, .int 181 0, .ref 86, .none, .ref 87, .ref 88, .ref 89, .int 334 0, .int 50 0, .str "/claim/cut.py" 335] },
  kf (stAt 37) "set_sbx" "set_sbx" "lua.opcodes" 194 90,
  kt,
  { cls := .type "builtin_function_or_method", data := .fields #[.builtin "type.__prepare__", .type "type"] },
  kd #[ke P "__module__" 351 (.str "lua.values" 337), ke P "__qualname__" 353 (.str "HeapObject" 352), ke P "__firstlineno__" 355 (.int 55 354), ke P "kind" 356 (.int (-1) 340), ke P "__init__" 365 (.ref 105), ke P "__static_attributes__" 369 (.ref 106)] 6,
  kt,
  { cls := .none, data := .fields #[.int 58 0, .int 4 0, .ref 104] },
  { cls := .type "code", data := .fields #[.str "HeapObject" 346, .str "HeapObject" 347, .str "/claim/cut.py" 348, .int 55 0, .int 0 0, .int 0 0, .int 0 0, .int 0 0, .ref 95, .bool false, .int 181 0, .ref 96, .none, .none, .none, .none, .int 349 0, .int 55 0, .str "/claim/cut.py" 350] },
  { cls := .type "frame", slots := #[some (.ref 97), some (.ref 3), some (.ref 94), none, some (.str "lua.values" 337), none, some (.ref 0)] },
  kt,
  kn,
  { cls := .type "tuple", data := .seq #[.str "self" 360, .str "number" 361, .str "size" 362] },
  kt,
  kc (stIn 41 1) "__init__" "HeapObject.__init__",
  { cls := .type "code", data := .fields #[.str "__init__" 357, .str "HeapObject.__init__" 358, .str "/claim/cut.py" 359, .int 58 0, .int 3 0, .int 0 0, .int 0 0, .int 3 0, .ref 99, .bool true, .int 181 0, .ref 100, .none, .ref 101, .ref 102, .ref 103, .int 363 0, .int 58 0, .str "/claim/cut.py" 364] },
  kf (stIn 41 1) "__init__" "HeapObject.__init__" "lua.values" 337 104,
  { cls := .type "tuple", data := .seq #[.str "mark" 366, .str "number" 367, .str "size" 368] },
  kd #[ke P "__module__" 351 (.str "lua.values" 337), ke P "__firstlineno__" 355 (.int 55 354), ke P "kind" 356 (.int (-1) 340), ke P "__init__" 365 (.ref 105), ke P "__static_attributes__" 369 (.ref 106), ke P "__dict__" 371 (.ref 109), ke P "__weakref__" 373 (.ref 110), ke P "__doc__" 374 (.none)] 4,
  { cls := .type "type", data := .cls { name := "HeapObject", bases := [.type "object"], mro := [.ref 108, .type "object"], ns := 107, qualname := "HeapObject", subclasses := [.ref 171] }, slots := #[none, none, some (.str "HeapObject" 344), some (.str "HeapObject" 352), some (.builtin "object.__new__"), some (.bool true)] },
  { cls := .type "getset_descriptor", data := .fields #[.str "__dict__" 370, .ref 108, .builtin "function.__dict__", .builtin "function.__dict__#set"] },
  { cls := .type "getset_descriptor", data := .fields #[.str "__weakref__" 372, .ref 108, .builtin "ExceptionGroup.__weakref__", .none] },
  { cls := .type "super", data := .fields #[.ref 108, .ref 108, .ref 108] },
  { cls := .type "builtin_function_or_method", data := .fields #[.builtin "object.__init_subclass__", .ref 108] },
  kt,
  { cls := .type "builtin_function_or_method", data := .fields #[.builtin "type.__prepare__", .type "type"] },
  kd #[ke P "__module__" 386 (.str "lua.protos" 377), ke P "__qualname__" 388 (.str "LocalVar" 387), ke P "__firstlineno__" 390 (.int 63 389), ke P "__init__" 400 (.ref 126), ke P "__static_attributes__" 404 (.ref 127)] 5,
  kt,
  { cls := .none, data := .fields #[.int 65 0, .int 4 0, .ref 125] },
  { cls := .type "code", data := .fields #[.str "LocalVar" 381, .str "LocalVar" 382, .str "/claim/cut.py" 383, .int 63 0, .int 0 0, .int 0 0, .int 0 0, .int 0 0, .ref 116, .bool false, .int 181 0, .ref 117, .none, .none, .none, .none, .int 384 0, .int 63 0, .str "/claim/cut.py" 385] },
  { cls := .type "frame", slots := #[some (.ref 118), some (.ref 3), some (.ref 115), none, some (.str "lua.protos" 377), none, some (.ref 0)] }]
noncomputable def topO3 (P : Params) : List Obj := [
  kt,
  kn,
  { cls := .type "tuple", data := .seq #[.str "self" 394, .str "name" 395, .str "start" 396, .str "end" 397] },
  kt,
  kc (stIn 43 0) "__init__" "LocalVar.__init__",
  { cls := .type "code", data := .fields #[.str "__init__" 391, .str "LocalVar.__init__" 392, .str "/claim/cut.py" 393, .int 65 0, .int 4 0, .int 0 0, .int 0 0, .int 3 0, .ref 120, .bool true, .int 181 0, .ref 121, .none, .ref 122, .ref 123, .ref 124, .int 398 0, .int 65 0, .str "/claim/cut.py" 399] },
  kf (stIn 43 0) "__init__" "LocalVar.__init__" "lua.protos" 377 125,
  { cls := .type "tuple", data := .seq #[.str "end" 401, .str "name" 402, .str "start" 403] },
  kd #[ke P "__module__" 386 (.str "lua.protos" 377), ke P "__firstlineno__" 390 (.int 63 389), ke P "__init__" 400 (.ref 126), ke P "__static_attributes__" 404 (.ref 127), ke P "__dict__" 406 (.ref 130), ke P "__weakref__" 408 (.ref 131), ke P "__doc__" 409 (.none)] 4,
  { cls := .type "type", data := .cls { name := "LocalVar", bases := [.type "object"], mro := [.ref 129, .type "object"], ns := 128, qualname := "LocalVar" }, slots := #[none, none, some (.str "LocalVar" 379), some (.str "LocalVar" 387), some (.builtin "object.__new__"), some (.bool true)] },
  { cls := .type "getset_descriptor", data := .fields #[.str "__dict__" 405, .ref 129, .builtin "function.__dict__", .builtin "function.__dict__#set"] },
  { cls := .type "getset_descriptor", data := .fields #[.str "__weakref__" 407, .ref 129, .builtin "ExceptionGroup.__weakref__", .none] },
  { cls := .type "super", data := .fields #[.ref 129, .ref 129, .ref 129] },
  { cls := .type "builtin_function_or_method", data := .fields #[.builtin "object.__init_subclass__", .ref 129] },
  { cls := .type "tuple", data := .seq #[.ref 108] },
  { cls := .type "builtin_function_or_method", data := .fields #[.builtin "type.__prepare__", .type "type"] },
  kd #[ke P "__module__" 419 (.str "lua.protos" 377), ke P "__qualname__" 421 (.str "Proto" 420), ke P "__firstlineno__" 423 (.int 69 422), ke P "kind" 424 (.int 9 342), ke P "__init__" 431 (.ref 147), ke P "line_at" 439 (.ref 154), ke P "local_name" 448 (.ref 161), ke P "upvalue_name" 456 (.ref 168), ke P "__static_attributes__" 470 (.ref 169)] 9,
  kt,
  { cls := .none, data := .fields #[.int 72 0, .int 4 0, .ref 146, .int 88 0, .int 4 0, .ref 153, .int 91 0, .int 4 0, .ref 160, .int 94 0, .int 4 0, .ref 167] },
  { cls := .type "code", data := .fields #[.str "Proto" 414, .str "Proto" 415, .str "/claim/cut.py" 416, .int 69 0, .int 0 0, .int 0 0, .int 0 0, .int 0 0, .ref 137, .bool false, .int 181 0, .ref 138, .none, .none, .none, .none, .int 417 0, .int 69 0, .str "/claim/cut.py" 418] },
  { cls := .type "frame", slots := #[some (.ref 139), some (.ref 3), some (.ref 136), none, some (.str "lua.protos" 377), none, some (.ref 0)] },
  kt,
  kn,
  { cls := .type "tuple", data := .seq #[.str "self" 428] },
  kt,
  kc (stIn 44 1) "__init__" "Proto.__init__",
  { cls := .type "code", data := .fields #[.str "__init__" 425, .str "Proto.__init__" 426, .str "/claim/cut.py" 427, .int 72 0, .int 1 0, .int 0 0, .int 0 0, .int 3 0, .ref 141, .bool true, .int 181 0, .ref 142, .none, .ref 143, .ref 144, .ref 145, .int 429 0, .int 72 0, .str "/claim/cut.py" 430] },
  kf (stIn 44 1) "__init__" "Proto.__init__" "lua.protos" 377 146,
  kt,
  kn,
  { cls := .type "tuple", data := .seq #[.str "self" 435, .str "pc" 436] },
  kt,
  kc (stIn 44 2) "line_at" "Proto.line_at",
  { cls := .type "code", data := .fields #[.str "line_at" 432, .str "Proto.line_at" 433, .str "/claim/cut.py" 434, .int 88 0, .int 2 0, .int 0 0, .int 0 0, .int 3 0, .ref 148, .bool true, .int 181 0, .ref 149, .none, .ref 150, .ref 151, .ref 152, .int 437 0, .int 88 0, .str "/claim/cut.py" 438] },
  kf (stIn 44 2) "line_at" "Proto.line_at" "lua.protos" 377 153,
  kt,
  kn,
  { cls := .type "tuple", data := .seq #[.str "self" 443, .str "number" 444, .str "pc" 445] },
  kt,
  kc (stIn 44 3) "local_name" "Proto.local_name"]
noncomputable def topO4 (P : Params) : List Obj := [
  { cls := .type "code", data := .fields #[.str "local_name" 440, .str "Proto.local_name" 441, .str "/claim/cut.py" 442, .int 91 0, .int 3 0, .int 0 0, .int 0 0, .int 3 0, .ref 155, .bool true, .int 181 0, .ref 156, .none, .ref 157, .ref 158, .ref 159, .int 446 0, .int 91 0, .str "/claim/cut.py" 447] },
  kf (stIn 44 3) "local_name" "Proto.local_name" "lua.protos" 377 160,
  kt,
  kn,
  { cls := .type "tuple", data := .seq #[.str "self" 452, .str "index" 453] },
  kt,
  kc (stIn 44 4) "upvalue_name" "Proto.upvalue_name",
  { cls := .type "code", data := .fields #[.str "upvalue_name" 449, .str "Proto.upvalue_name" 450, .str "/claim/cut.py" 451, .int 94 0, .int 2 0, .int 0 0, .int 0 0, .int 3 0, .ref 162, .bool true, .int 181 0, .ref 163, .none, .ref 164, .ref 165, .ref 166, .int 454 0, .int 94 0, .str "/claim/cut.py" 455] },
  kf (stIn 44 4) "upvalue_name" "Proto.upvalue_name" "lua.protos" 377 167,
  { cls := .type "tuple", data := .seq #[.str "code" 457, .str "constants" 458, .str "is_vararg" 459, .str "last_line" 460, .str "line_defined" 461, .str "line_info" 462, .str "locals" 463, .str "max_stack" 464, .str "param_count" 465, .str "protos" 466, .str "source" 467, .str "upvalue_count" 468, .str "upvalue_names" 469] },
  kd #[ke P "__module__" 419 (.str "lua.protos" 377), ke P "__firstlineno__" 423 (.int 69 422), ke P "kind" 424 (.int 9 342), ke P "__init__" 431 (.ref 147), ke P "line_at" 439 (.ref 154), ke P "local_name" 448 (.ref 161), ke P "upvalue_name" 456 (.ref 168), ke P "__static_attributes__" 470 (.ref 169), ke P "__doc__" 471 (.none)] 2,
  { cls := .type "type", data := .cls { name := "Proto", bases := [.ref 108], mro := [.ref 171, .ref 108, .type "object"], ns := 170, qualname := "Proto" }, slots := #[some (.ref 134), none, some (.str "Proto" 412), some (.str "Proto" 420), some (.builtin "object.__new__"), some (.bool true)] },
  { cls := .type "super", data := .fields #[.ref 171, .ref 171, .ref 171] },
  { cls := .type "builtin_function_or_method", data := .fields #[.builtin "object.__init_subclass__", .ref 171] },
  { cls := .type "tuple", data := .seq #[.int 23 233, .int 24 235, .int 25 237, .int 26 239, .int 27 241] },
  kt,
  kn,
  { cls := .type "tuple", data := .seq #[.str "p" 480, .str "pc" 481, .str "i" 482] },
  kt,
  kc (stAt 47) "words_of" "words_of",
  { cls := .type "code", data := .fields #[.str "words_of" 477, .str "words_of" 478, .str "/claim/cut.py" 479, .int 98 0, .int 2 0, .int 0 0, .int 0 0, .int 3 0, .ref 175, .bool true, .int 181 0, .ref 176, .none, .ref 177, .ref 178, .ref 179, .int 483 0, .int 98 0, .str "/claim/cut.py" 484] },
  kf (stAt 47) "words_of" "words_of" "lua.passes" 474 180,
  kt,
  kn,
  { cls := .type "tuple", data := .seq #[.str "p" 489, .str "found" 490, .str "pc" 491] },
  kt,
  kc (stAt 48) "starts_of" "starts_of",
  { cls := .type "code", data := .fields #[.str "starts_of" 486, .str "starts_of" 487, .str "/claim/cut.py" 488, .int 105 0, .int 1 0, .int 0 0, .int 0 0, .int 3 0, .ref 182, .bool true, .int 181 0, .ref 183, .none, .ref 184, .ref 185, .ref 186, .int 492 0, .int 105 0, .str "/claim/cut.py" 493] },
  kf (stAt 48) "starts_of" "starts_of" "lua.passes" 474 187,
  kt,
  kn,
  { cls := .type "tuple", data := .seq #[.str "i" 498] },
  kt,
  kc (stAt 49) "is_jump" "is_jump",
  { cls := .type "code", data := .fields #[.str "is_jump" 495, .str "is_jump" 496, .str "/claim/cut.py" 497, .int 111 0, .int 1 0, .int 0 0, .int 0 0, .int 3 0, .ref 189, .bool true, .int 181 0, .ref 190, .none, .ref 191, .ref 192, .ref 193, .int 499 0, .int 111 0, .str "/claim/cut.py" 500] },
  kf (stAt 49) "is_jump" "is_jump" "lua.passes" 474 194,
  kt,
  kn,
  { cls := .type "tuple", data := .seq #[.str "p" 505, .str "pc" 506] },
  kt]
noncomputable def topO5 (P : Params) : List Obj := [
  kc (stAt 50) "target" "target",
  { cls := .type "code", data := .fields #[.str "target" 502, .str "target" 503, .str "/claim/cut.py" 504, .int 113 0, .int 2 0, .int 0 0, .int 0 0, .int 3 0, .ref 196, .bool true, .int 181 0, .ref 197, .none, .ref 198, .ref 199, .ref 200, .int 507 0, .int 113 0, .str "/claim/cut.py" 508] },
  kf (stAt 50) "target" "target" "lua.passes" 474 201,
  kt,
  kn,
  { cls := .type "tuple", data := .seq #[.str "p" 513, .str "pc" 514, .str "i" 515, .str "op" 516, .str "later" 517] },
  kt,
  kc (stAt 51) "next_places" "next_places",
  { cls := .type "code", data := .fields #[.str "next_places" 510, .str "next_places" 511, .str "/claim/cut.py" 512, .int 115 0, .int 2 0, .int 0 0, .int 0 0, .int 3 0, .ref 203, .bool true, .int 181 0, .ref 204, .none, .ref 205, .ref 206, .ref 207, .int 518 0, .int 115 0, .str "/claim/cut.py" 519] },
  kf (stAt 51) "next_places" "next_places" "lua.passes" 474 208,
  kt,
  kn,
  { cls := .type "tuple", data := .seq #[.str "p" 524, .str "found" 525, .str "waiting" 526, .str "pc" 527, .str "at" 528] },
  kt,
  kc (stAt 52) "reached" "reached",
  { cls := .type "code", data := .fields #[.str "reached" 521, .str "reached" 522, .str "/claim/cut.py" 523, .int 129 0, .int 1 0, .int 0 0, .int 0 0, .int 3 0, .ref 210, .bool true, .int 181 0, .ref 211, .none, .ref 212, .ref 213, .ref 214, .int 529 0, .int 129 0, .str "/claim/cut.py" 530] },
  kf (stAt 52) "reached" "reached" "lua.passes" 474 215,
  kt,
  kn,
  kc (stAt 53) "copied" "copied",
  { cls := .type "code", data := .fields #[.str "copied" 532, .str "copied" 533, .str "/claim/cut.py" 534, .int 139 0, .int 1 0, .int 0 0, .int 0 0, .int 3 0, .ref 217, .bool true, .int 181 0, .ref 218, .none, .none, .none, .ref 219, .int 535 0, .int 139 0, .str "/claim/cut.py" 536] },
  kf (stAt 53) "copied" "copied" "lua.passes" 474 220,
  kt,
  kn,
  kc (stAt 54) "laid_out" "laid_out",
  { cls := .type "code", data := .fields #[.str "laid_out" 538, .str "laid_out" 539, .str "/claim/cut.py" 540, .int 155 0, .int 2 0, .int 0 0, .int 0 0, .int 3 0, .ref 222, .bool true, .int 181 0, .ref 223, .none, .none, .none, .ref 224, .int 541 0, .int 155 0, .str "/claim/cut.py" 542] },
  kf (stAt 54) "laid_out" "laid_out" "lua.passes" 474 225,
  kt,
  kn,
  { cls := .type "tuple", data := .seq #[.str "p" 547, .str "kept" 548, .str "found" 549, .str "pc" 550, .str "i" 551] },
  kt,
  kc (stAt 55) "without_skips" "without_skips",
  { cls := .type "code", data := .fields #[.str "without_skips" 544, .str "without_skips" 545, .str "/claim/cut.py" 546, .int 177 0, .int 2 0, .int 0 0, .int 0 0, .int 3 0, .ref 227, .bool true, .int 181 0, .ref 228, .none, .ref 229, .ref 230, .ref 231, .int 552 0, .int 177 0, .str "/claim/cut.py" 553] },
  kf (stAt 55) "without_skips" "without_skips" "lua.passes" 474 232,
  kt,
  kn,
  kc (stAt 56) "drop_dead" "drop_dead",
  { cls := .type "code", data := .fields #[.str "drop_dead" 555, .str "drop_dead" 556, .str "/claim/cut.py" 557, .int 184 0, .int 1 0, .int 0 0, .int 0 0, .int 3 0, .ref 234, .bool true, .int 181 0, .ref 235, .none, .none, .none, .ref 236, .int 558 0, .int 184 0, .str "/claim/cut.py" 559] },
  kf (stAt 56) "drop_dead" "drop_dead" "lua.passes" 474 237,
  { cls := .type "tuple", data := .seq #[.int 23 563, .int 24 564, .int 26 565, .int 27 566, .int 33 567] }]
noncomputable def topO6 (P : Params) : List Obj := [
  { cls := .type "tuple", data := .seq #[.int 22 569, .int 31 570, .int 32 571] },
  kt,
  kn,
  { cls := .type "tuple", data := .seq #[.str "box" 576, .str "wide" 577] },
  kt,
  kc (stAt 60) "_law_take" "_law_take",
  { cls := .type "code", data := .fields #[.str "_law_take" 573, .str "_law_take" 574, .str "/claim/cut.py" 575, .int 195 0, .int 2 0, .int 0 0, .int 0 0, .int 3 0, .ref 241, .bool true, .int 181 0, .ref 242, .none, .ref 243, .ref 244, .ref 245, .int 578 0, .int 195 0, .str "/claim/cut.py" 579] },
  kf (stAt 60) "_law_take" "_law_take" "law_nt0662_01" 561 246,
  kt,
  kn,
  { cls := .type "tuple", data := .seq #[.str "op" 584, .str "a" 585, .str "b" 586, .str "c" 587] },
  kt,
  kc (stAt 61) "_law_word" "_law_word",
  { cls := .type "code", data := .fields #[.str "_law_word" 581, .str "_law_word" 582, .str "/claim/cut.py" 583, .int 200 0, .int 4 0, .int 0 0, .int 0 0, .int 3 0, .ref 248, .bool true, .int 181 0, .ref 249, .none, .ref 250, .ref 251, .ref 252, .int 588 0, .int 200 0, .str "/claim/cut.py" 589] },
  kf (stAt 61) "_law_word" "_law_word" "law_nt0662_01" 561 253,
  kt,
  kn,
  { cls := .type "tuple", data := .seq #[.str "word" 594] },
  kt,
  kc (stAt 62) "_law_parts" "_law_parts",
  { cls := .type "code", data := .fields #[.str "_law_parts" 591, .str "_law_parts" 592, .str "/claim/cut.py" 593, .int 202 0, .int 1 0, .int 0 0, .int 0 0, .int 3 0, .ref 255, .bool true, .int 181 0, .ref 256, .none, .ref 257, .ref 258, .ref 259, .int 595 0, .int 202 0, .str "/claim/cut.py" 596] },
  kf (stAt 62) "_law_parts" "_law_parts" "law_nt0662_01" 561 260,
  kt,
  kn,
  { cls := .type "tuple", data := .seq #[.str "word" 601] },
  kt,
  kc (stAt 63) "_law_distance" "_law_distance",
  { cls := .type "code", data := .fields #[.str "_law_distance" 598, .str "_law_distance" 599, .str "/claim/cut.py" 600, .int 204 0, .int 1 0, .int 0 0, .int 0 0, .int 3 0, .ref 262, .bool true, .int 181 0, .ref 263, .none, .ref 264, .ref 265, .ref 266, .int 602 0, .int 204 0, .str "/claim/cut.py" 603] },
  kf (stAt 63) "_law_distance" "_law_distance" "law_nt0662_01" 561 267,
  kt,
  kn,
  { cls := .type "tuple", data := .seq #[.str "box" 608, .str "form" 609, .str "a" 610] },
  kt,
  kc (stAt 64) "_law_some" "_law_some",
  { cls := .type "code", data := .fields #[.str "_law_some" 605, .str "_law_some" 606, .str "/claim/cut.py" 607, .int 206 0, .int 2 0, .int 0 0, .int 0 0, .int 3 0, .ref 269, .bool true, .int 181 0, .ref 270, .none, .ref 271, .ref 272, .ref 273, .int 611 0, .int 206 0, .str "/claim/cut.py" 612] },
  kf (stAt 64) "_law_some" "_law_some" "law_nt0662_01" 561 274,
  kt,
  kn,
  kc (stAt 65) "_law_proto" "_law_proto",
  { cls := .type "code", data := .fields #[.str "_law_proto" 614, .str "_law_proto" 615, .str "/claim/cut.py" 616, .int 227 0, .int 1 0, .int 0 0, .int 0 0, .int 3 0, .ref 276, .bool true, .int 181 0, .ref 277, .none, .none, .none, .ref 278, .int 617 0, .int 227 0, .str "/claim/cut.py" 618] }]
noncomputable def topO7 (P : Params) : List Obj := [
  kf (stAt 65) "_law_proto" "_law_proto" "law_nt0662_01" 561 279,
  kt,
  kn,
  { cls := .type "tuple", data := .seq #[.str "word" 623, .str "op" 624, .str "a" 625, .str "b" 626, .str "c" 627] },
  kt,
  kc (stAt 66) "_law_size" "_law_size",
  { cls := .type "code", data := .fields #[.str "_law_size" 620, .str "_law_size" 621, .str "/claim/cut.py" 622, .int 246 0, .int 1 0, .int 0 0, .int 0 0, .int 3 0, .ref 281, .bool true, .int 181 0, .ref 282, .none, .ref 283, .ref 284, .ref 285, .int 628 0, .int 246 0, .str "/claim/cut.py" 629] },
  kf (stAt 66) "_law_size" "_law_size" "law_nt0662_01" 561 286,
  kt,
  kn,
  { cls := .type "tuple", data := .seq #[.str "code" 634, .str "at" 635, .str "op" 636, .str "a" 637, .str "b" 638, .str "c" 639] },
  kt,
  kc (stAt 67) "_law_next" "_law_next",
  { cls := .type "code", data := .fields #[.str "_law_next" 631, .str "_law_next" 632, .str "/claim/cut.py" 633, .int 249 0, .int 2 0, .int 0 0, .int 0 0, .int 3 0, .ref 288, .bool true, .int 181 0, .ref 289, .none, .ref 290, .ref 291, .ref 292, .int 640 0, .int 249 0, .str "/claim/cut.py" 641] },
  kf (stAt 67) "_law_next" "_law_next" "law_nt0662_01" 561 293,
  kt,
  kn,
  { cls := .type "tuple", data := .seq #[.str "code" 646, .str "found" 647, .str "left" 648, .str "at" 649, .str "spot" 650] },
  kt,
  kc (stAt 68) "_law_live" "_law_live",
  { cls := .type "code", data := .fields #[.str "_law_live" 643, .str "_law_live" 644, .str "/claim/cut.py" 645, .int 260 0, .int 1 0, .int 0 0, .int 0 0, .int 3 0, .ref 295, .bool true, .int 181 0, .ref 296, .none, .ref 297, .ref 298, .ref 299, .int 651 0, .int 260 0, .str "/claim/cut.py" 652] },
  kf (stAt 68) "_law_live" "_law_live" "law_nt0662_01" 561 300,
  kt,
  kn,
  { cls := .type "tuple", data := .seq #[.str "code" 657, .str "lines" 658, .str "bits" 659, .str "found" 660, .str "at" 661, .str "bit" 662, .str "op" 663, .str "a" 664, .str "b" 665, .str "c" 666, .str "told_word" 667, .str "later" 668] },
  kt,
  kc (stAt 69) "_law_trace" "_law_trace",
  { cls := .type "code", data := .fields #[.str "_law_trace" 654, .str "_law_trace" 655, .str "/claim/cut.py" 656, .int 269 0, .int 3 0, .int 0 0, .int 0 0, .int 3 0, .ref 302, .bool true, .int 181 0, .ref 303, .none, .ref 304, .ref 305, .ref 306, .int 669 0, .int 269 0, .str "/claim/cut.py" 670] },
  kf (stAt 69) "_law_trace" "_law_trace" "law_nt0662_01" 561 307,
  kt,
  kn,
  kc (stAt 70) "_law_held" "_law_held",
  { cls := .type "code", data := .fields #[.str "_law_held" 672, .str "_law_held" 673, .str "/claim/cut.py" 674, .int 280 0, .int 1 0, .int 0 0, .int 0 0, .int 3 0, .ref 309, .bool true, .int 181 0, .ref 310, .none, .none, .none, .ref 311, .int 675 0, .int 280 0, .str "/claim/cut.py" 676] },
  kf (stAt 70) "_law_held" "_law_held" "law_nt0662_01" 561 312,
  kt,
  kn,
  kc (stAt 71) "_law_right" "_law_right",
  { cls := .type "code", data := .fields #[.str "_law_right" 678, .str "_law_right" 679, .str "/claim/cut.py" 680, .int 283 0, .int 4 0, .int 0 0, .int 0 0, .int 3 0, .ref 314, .bool true, .int 181 0, .ref 315, .none, .none, .none, .ref 316, .int 681 0, .int 283 0, .str "/claim/cut.py" 682] },
  kf (stAt 71) "_law_right" "_law_right" "law_nt0662_01" 561 317,
  kt]
noncomputable def topO8 (P : Params) : List Obj := [
  kn,
  { cls := .type "tuple", data := .seq #[.str "script" 687, .str "seed" 688, .str "one" 689, .str "box" 690, .str "old" 691, .str "inner" 692, .str "elder" 693, .str "elder_inner" 694, .str "new" 695] },
  kt,
  kc (stAt 72) "law" "law",
  { cls := .type "code", data := .fields #[.str "law" 684, .str "law" 685, .str "/claim/cut.py" 686, .int 301 0, .int 1 0, .int 0 0, .int 0 0, .int 3 0, .ref 319, .bool true, .int 181 0, .ref 320, .none, .ref 321, .ref 322, .ref 323, .int 696 0, .int 301 0, .str "/claim/cut.py" 697] },
  kf (stAt 72) "law" "law" "law_nt0662_01" 561 324]
/-- the heap that the top leaves -/
noncomputable def topHeap (P : Params) : Heap := { objs := { toList := topO0 P ++ topO1 P ++ topO2 P ++ topO3 P ++ topO4 P ++ topO5 P ++ topO6 P ++ topO7 P ++ topO8 P } }
noncomputable def topAs : List Addr := [2, 3, 27, 28, 34, 35, 41, 42, 48, 49, 55, 56, 62, 63, 69, 70, 76, 77, 83, 84, 90, 91, 104, 105, 107, 108, 125, 126, 128, 129, 146, 147, 170, 171, 174, 180, 181, 187, 188, 194, 195, 201, 202, 208, 209, 215, 216, 220, 221, 225, 226, 232, 233, 237, 238, 239, 240, 246, 247, 253, 254, 260, 261, 267, 268, 274, 275, 279, 280, 286, 287, 293, 294, 300, 301, 307, 308, 312, 313, 317, 318]
noncomputable def topK (P : Params) : Frag := topAs.map fun a => (a, ((topHeap P).objs[a]?).getD default)
noncomputable def topQ : Program := { PySem.Challenge.pw_nt0662_01 with main := { PySem.Challenge.pw_nt0662_01.main with body := [stAt 0, stAt 2, stAt 3, stAt 4, stAt 5, stAt 6, stAt 7, stAt 8, stAt 9, stAt 10, stAt 11, stAt 12, stAt 13, stAt 14, stAt 15, stAt 16, stAt 17, stAt 18, stAt 19, stAt 20, stAt 21, stAt 22, stAt 23, stAt 24, stAt 25, stAt 26, stAt 27, stAt 28, stAt 29, stAt 30, stAt 31, stAt 32, stAt 33, stAt 34, stAt 35, stAt 36, stAt 37, stAt 39, stAt 40, stAt 41, stAt 43, stAt 44, stAt 46, stAt 47, stAt 48, stAt 49, stAt 50, stAt 51, stAt 52, stAt 53, stAt 54, stAt 55, stAt 56, stAt 58, stAt 59, stAt 60, stAt 61, stAt 62, stAt 63, stAt 64, stAt 65, stAt 66, stAt 67, stAt 68, stAt 69, stAt 70, stAt 71, stAt 72] } }
noncomputable def topD : DefRec := { name := "law", params := fnA (stAt 72), body := fnB (stAt 72), scope := fnS (stAt 72), pos := fnPos (stAt 72) }
noncomputable def topH : Hook := kHook topK topAs (fun _ => by kernel_rfl)
noncomputable def topL : List Str := ["SIZE_BX", "POS_A", "POS_C", "POS_B", "POS_BX", "MAXARG_BX", "MAXARG_SBX", "MAX_WORD", "HeapObject", "Proto", "TESTS"]
noncomputable def topX (s : Shared) : Bool := xlAt topQ [] s && recOk (RowW.records PySem.Challenge.rw_nt0662_01.row.toRowW) s
theorem top_plain : opening PySem.Challenge.pw_nt0662_01 = plainProg PySem.Challenge.pw_nt0662_01.main.scope.names := by kernel_rfl
theorem top_fence : ∀ s, fenceModules? PySem.Challenge.pw_nt0662_01 s = some s := fun s => by kernel_rfl
theorem top_size : ∀ w : World, ((boot_heap w.params).isNs mainGlobals && (Array.mk ([] : List GenState)).size == 0, (boot_heap w.params).objs.size, (boot_heap w.params).nsMap mainGlobals "__annotations__") = (true, 11, some (.ref 6)) := fun w => by kernel_rfl
theorem top_run : ∀ (w : World) (os : OsState), topRun treeTable PySem.Challenge.pw_nt0662_01 w 11 (some (.ref 6)) 2302 ⟨boot_heap w.params, Array.mk [], boot_drawn, boot_toks, os⟩ (topStub PySem.Challenge.pw_nt0662_01) = some ⟨topHeap w.params, Array.mk [], {}, 699, os⟩ := fun w os => by kernel_rfl
theorem top_looks : ∀ w : World, (fun os => ((staticsOk (importedModules PySem.Challenge.pw_nt0662_01.main.body) (boot_heap w.params) (topHeap w.params) && namesBound PySem.Challenge.pw_nt0662_01 (topHeap w.params) && gensDone ⟨topHeap w.params, Array.mk [], {}, 699, os⟩ && laidKept (boot_heap w.params) (topHeap w.params)),
        openSeen topQ topL (importedModules PySem.Challenge.pw_nt0662_01.main.body) topX true ⟨topHeap w.params, Array.mk [], {}, 699, os⟩, topH.obs ⟨topHeap w.params, Array.mk [], {}, 699, os⟩)) = fun _ => (true, openGood topQ topL, topH.val w) := fun w => by kernel_rfl
theorem top_left : LeftO PySem.Challenge.pw_nt0662_01 topQ topL topX topH.obs topH.val 4686 := LeftO.of_pieces (boot_open top_plain (by decide) top_fence) top_size top_run (by decide) top_looks

theorem top_chk (P : Params) : Chk (topK P) := ⟨by kernel_rfl, by kernel_rfl, by kernel_rfl, by kernel_rfl, by kernel_rfl, by kernel_rfl, by kernel_rfl, ⟨by kernel_rfl, by kernel_rfl, by kernel_rfl, by kernel_rfl, by kernel_rfl⟩, ⟨by kernel_rfl, by kernel_rfl, by kernel_rfl, by kernel_rfl, by kernel_rfl⟩, by kernel_rfl, by kernel_rfl, by kernel_rfl, ⟨by kernel_rfl, by kernel_rfl, by kernel_rfl, by kernel_rfl⟩, ⟨by kernel_rfl, by kernel_rfl, by kernel_rfl, by kernel_rfl⟩, by kernel_rfl, by kernel_rfl, by kernel_rfl, by kernel_rfl, by kernel_rfl, by kernel_rfl, by kernel_rfl, by kernel_rfl, by kernel_rfl, by kernel_rfl⟩
end Mine
set_option maxRecDepth 100000 in
set_option maxHeartbeats 8000000 in
theorem PySem.Challenge.cw_nt0662_01_holds : PySem.Challenge.rw_nt0662_01.Holds := by
  (w_on; refine holds_law (by decide +kernel) fun said => ?_; refine holds_open (q := Mine.topQ) (loose := Mine.topL) (Xt := Mine.topX) (XP := XL Mine.topQ []) (Yf := Hook.obs Mine.topH) (Ya := Hook.val Mine.topH) (YP := Hook.says Mine.topH) (N := 4686) (d := Mine.topD) (kwd := []) Mine.top_left (Hook.of Mine.topH) (Hook.keeps Mine.topH) (fun s e => xl_of s (Bool.and_eq_true_iff.mp e).1) XL.keeps (by kernel_rfl) (by kernel_rfl) (by kernel_rfl) (fun s e => recFacts_of (Bool.and_eq_true_iff.mp e).2) rfl said (by decide +kernel) ⟨rfl, rfl, rfl, rfl, rfl, by decide +kernel⟩ ?hw ?hc; (case hw => w_witness2); w_strict (intro w s₀ s₁ mg mb G Y fa o pm cd doc dV kV ho hd hcd hD hmg hg args vals as hpre hlay hrd hwl hlo; have KX := kIn_of Y; refine Ground.open G ?_; intro T B D TE TW; (try (refine guard_noD D (by decide +kernel) ?_; clear D)); (obtain ⟨_, _, M⟩ := bmod_of_top T); (have TA := at_of_top T); (try (obtain ⟨_, _, he, B0⟩ := based_of_top T rfl hmg ho hd; have he' : cd = _ := he; subst he'; clear he)); clear hmg; wrow_args hpre hlay hrd hwl hlo; all_goals ((first | refine callC_kw (enter_call ?_) | refine enter_call ?_ | refine callC_kw (enter_callW ?_) | refine enter_callW ?_ | w_how); w_top on; (try refine codeAny_mono ?_ (fun _ _ g => GoodW.toG g)); (have K0 := below_caller (Top.heap T)); w_call any ho hd hcd hD T F; clear hd TA; k_drop); refine wpAny_mono (Mine.law_join ‹Frag.In _ _› (Mine.top_chk _) (Top.g ‹Top _ _ _ _ _ _›) (Top.b ‹Top _ _ _ _ _ _›) (Top.nolimit ‹Top _ _ _ _ _ _›) (Top.builtins ‹Top _ _ _ _ _ _›) ‹_ = #[]› ‹Heap.IsList _ _ _› ‹IntsAre _ _› (by omega) F rfl (Mine.room_law _)) ?_ (fun _ _ h => h.elim); rintro _ s' ⟨rfl, k1, k2, k3⟩; exact ⟨.inl ⟨_, _, [], rfl, fun _ => rfl, ReadsW.bool true, by kernel_rfl, fun _ => ⟨List.nodup_nil, fun _ hm => nomatch hm⟩⟩, k1, k2, k3⟩))
