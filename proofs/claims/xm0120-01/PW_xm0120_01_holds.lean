import PyProof.Rows.All
import Wide.All
import OpenK.AllK
import Wide.FinOn
import Lean
import PySem.Challenge.RW_xm0120_01
set_option Elab.async false

section
open PySem PySem.W PyProof.Rows
set_option autoImplicit false
set_option maxRecDepth 100000
namespace Mine

/-! ## data -/
inductive Dt where
  | none
  | bool (b : Bool)
  | int (i : Int)
  | tup (l : List Dt)
  | list (l : List Dt)
  | plist (l : List Dt)
  | dict (l : List (List Int × Dt))

noncomputable abbrev DictE (prog : Program) (w : World) (h : Heap) (a : Addr) (xs : List (List Int × Addr × Value)) : Prop :=
  h.DictOfH (tupleKind (intKind prog w)) a xs

section
variable (prog : Program) (w : World)
mutual
noncomputable def Rd (X : Addr → Prop) (h : Heap) : Dt → Value → Prop
  | .none, v => v = .none
  | .bool b, v => v = .bool b
  | .int i, v => ∃ t, v = .int i t
  | .tup l, v => ∃ a items, v = .ref a ∧ IsTup h a items ∧ RdL X h l items.toList
  | .list l, v => ∃ a items, v = .ref a ∧ ¬ X a ∧ h.IsList a items ∧ RdL X h l items.toList
  | .plist l, v => ∃ a items, v = .ref a ∧ ¬ X a ∧ h.PlainList a items ∧ RdL X h l items.toList
  | .dict l, v => ∃ a xs, v = .ref a ∧ ¬ X a ∧ 2 < a ∧ DictE prog w h a xs ∧ RdD X h l xs
noncomputable def RdL (X : Addr → Prop) (h : Heap) : List Dt → List Value → Prop
  | [], vs => vs = []
  | d :: ds, vs => ∃ v r, vs = v :: r ∧ Rd X h d v ∧ RdL X h ds r
noncomputable def RdD (X : Addr → Prop) (h : Heap) : List (List Int × Dt) → List (List Int × Addr × Value) → Prop
  | [], xs => xs = []
  | e :: es, xs => ∃ a v r, xs = (e.1, a, v) :: r ∧ Rd X h e.2 v ∧ RdD X h es r
end

/-- a container read through its own address, whoever owns it -/
noncomputable def RdC (X : Addr → Prop) (h : Heap) : Dt → Value → Prop
  | .list l, v => ∃ a items, v = .ref a ∧ h.IsList a items ∧ RdL prog w X h l items.toList
  | .plist l, v => ∃ a items, v = .ref a ∧ h.PlainList a items ∧ RdL prog w X h l items.toList
  | .dict l, v => ∃ a xs, v = .ref a ∧ 2 < a ∧ DictE prog w h a xs ∧ RdD prog w X h l xs
  | d, v => Rd prog w X h d v
end

section
variable {prog : Program} {w : World} {X Y : Addr → Prop} {h h' : Heap}

noncomputable abbrev Keep (h h' : Heap) : Prop := ∀ b o, h.get? b = some o → h'.get? b = some o
theorem Keep.refl (h : Heap) : Keep h h := fun _ _ e => e
theorem Keep.trans {h₁ h₂ h₃ : Heap} (x : Keep h₁ h₂) (y : Keep h₂ h₃) : Keep h₁ h₃ := fun b o e => y b o (x b o e)

/-- what a change of the excluded addresses leaves: all else, and every tuple -/
noncomputable def IsT (o : Obj) : Prop := o.cls = .type "tuple" ∧ ∃ items n, o.data = .seq items n
noncomputable def KeepX (X : Addr → Prop) (h h' : Heap) : Prop := ∀ b o, h.get? b = some o → (¬ X b ∨ IsT o) → h'.get? b = some o
/-- what can be read within an object's datum -/
noncomputable def Rdb (X : Addr → Prop) (b : Addr) (o : Obj) : Prop := IsT o ∨ (¬ X b ∧ (o.cls = .type "list" ∨ o.cls = .type "dict"))
noncomputable def KeepR (X : Addr → Prop) (h h' : Heap) : Prop := ∀ b o, h.get? b = some o → Rdb X b o → h'.get? b = some o
theorem Keep.x (k : Keep h h') : KeepX X h h' := fun b o e _ => k b o e
theorem KeepX.r (k : KeepX X h h') : KeepR X h h' := fun b o e q => k b o e (q.elim .inr fun z => .inl z.1)
theorem KeepR.trans {h₁ h₂ h₃ : Heap} (x : KeepR X h₁ h₂) (y : KeepR X h₂ h₃) : KeepR X h₁ h₃ := fun b o e c => y b o (x b o e c) c
theorem KeepX.trans {h₁ h₂ h₃ : Heap} (x : KeepX X h₁ h₂) (y : KeepX X h₂ h₃) : KeepX X h₁ h₃ := fun b o e c => y b o (x b o e c) c

theorem DictE.keepR {a : Addr} {xs : List (List Int × Addr × Value)} (x : DictE prog w h a xs) (hX : ¬ X a) (k : KeepR X h h') : DictE prog w h' a xs := by
  obtain ⟨o, es, ep, ho, hc, hd, he, hk, hn⟩ := x
  refine ⟨o, es, ep, k _ _ ho (.inr ⟨hX, .inr hc.1⟩), hc, hd, he, fun y hy => ?_, hn⟩
  obtain ⟨o', items, n, ho', hc', hd', hi⟩ := hk y hy
  exact ⟨o', items, n, k _ _ ho' (.inl ⟨hc', items, n, hd'⟩), hc', hd', hi⟩
theorem IsList.keepR {a : Addr} {items : Array Value} (x : h.IsList a items) (hX : ¬ X a) (k : KeepR X h h') : h'.IsList a items := by
  obtain ⟨o, ho, hc, r⟩ := x; exact ⟨o, k _ _ ho (.inr ⟨hX, .inl hc⟩), hc, r⟩
theorem PlainList.keepR {a : Addr} {items : Array Value} (x : h.PlainList a items) (hX : ¬ X a) (k : KeepR X h h') : h'.PlainList a items := by
  obtain ⟨n, ho⟩ := x; exact ⟨n, k _ _ ho (.inr ⟨hX, .inl rfl⟩)⟩
theorem IsTup.keepR {a : Addr} {items : Array Value} (x : IsTup h a items) (k : KeepR X h h') : IsTup h' a items := by
  obtain ⟨o, ho, hc, n, r⟩ := x; exact ⟨o, k _ _ ho (.inl ⟨hc, _, n, r⟩), hc, n, r⟩

/-- Y excludes no more of what stands in h than X does -/
noncomputable abbrev Sub (h : Heap) (X Y : Addr → Prop) : Prop := ∀ a, Y a → X a ∨ h.get? a = none

mutual
theorem Rd.go (k : KeepR X h h') (hs : Sub h X Y) : ∀ (d : Dt) (v : Value), Rd prog w X h d v → Rd prog w Y h' d v
  | .none, v, x => by simp only [Rd] at x ⊢; exact x
  | .bool b, v, x => by simp only [Rd] at x ⊢; exact x
  | .int i, v, x => by simp only [Rd] at x ⊢; exact x
  | .tup l, v, x => by
    simp only [Rd] at x ⊢
    obtain ⟨a, items, e, ht, hl⟩ := x
    exact ⟨a, items, e, IsTup.keepR ht k, RdL.go k hs l _ hl⟩
  | .list l, v, x => by
    simp only [Rd] at x ⊢
    obtain ⟨a, items, e, hX, ht, hl⟩ := x
    refine ⟨a, items, e, fun hY => ?_, IsList.keepR ht hX k, RdL.go k hs l _ hl⟩
    rcases hs a hY with q | q
    · exact hX q
    · obtain ⟨o, ho, _⟩ := ht; rw [q] at ho; cases ho
  | .plist l, v, x => by
    simp only [Rd] at x ⊢
    obtain ⟨a, items, e, hX, ht, hl⟩ := x
    refine ⟨a, items, e, fun hY => ?_, PlainList.keepR ht hX k, RdL.go k hs l _ hl⟩
    rcases hs a hY with q | q
    · exact hX q
    · obtain ⟨o, ho⟩ := ht; rw [q] at ho; cases ho
  | .dict l, v, x => by
    simp only [Rd] at x ⊢
    obtain ⟨a, xs, e, hX, h2, ht, hl⟩ := x
    refine ⟨a, xs, e, fun hY => ?_, h2, DictE.keepR ht hX k, RdD.go k hs l _ hl⟩
    rcases hs a hY with q | q
    · exact hX q
    · obtain ⟨o, _, _, ho, _⟩ := ht; rw [q] at ho; cases ho
theorem RdL.go (k : KeepR X h h') (hs : Sub h X Y) : ∀ (l : List Dt) (vs : List Value), RdL prog w X h l vs → RdL prog w Y h' l vs
  | [], vs, x => by simp only [RdL] at x ⊢; exact x
  | d :: ds, vs, x => by
    simp only [RdL] at x ⊢
    obtain ⟨v, r, e, h1, h2⟩ := x
    exact ⟨v, r, e, Rd.go k hs d v h1, RdL.go k hs ds r h2⟩
theorem RdD.go (k : KeepR X h h') (hs : Sub h X Y) : ∀ (l : List (List Int × Dt)) (xs : List (List Int × Addr × Value)), RdD prog w X h l xs → RdD prog w Y h' l xs
  | [], vs, x => by simp only [RdD] at x ⊢; exact x
  | (n, d) :: ds, vs, x => by
    simp only [RdD] at x ⊢
    obtain ⟨a, v, r, e, h1, h2⟩ := x
    exact ⟨a, v, r, e, Rd.go k hs d v h1, RdD.go k hs ds r h2⟩
end
theorem Sub.refl : Sub h X X := fun _ x => .inl x
theorem Rd.keepX {d : Dt} {v : Value} (x : Rd prog w X h d v) (k : KeepX X h h') : Rd prog w X h' d v := Rd.go k.r Sub.refl d v x
theorem Rd.keepR {d : Dt} {v : Value} (x : Rd prog w X h d v) (k : KeepR X h h') : Rd prog w X h' d v := Rd.go k Sub.refl d v x
theorem RdL.keepR {d : List Dt} {v : List Value} (x : RdL prog w X h d v) (k : KeepR X h h') : RdL prog w X h' d v := RdL.go k Sub.refl d v x
theorem RdD.keepR {d : List (List Int × Dt)} {v : List (List Int × Addr × Value)} (x : RdD prog w X h d v) (k : KeepR X h h') : RdD prog w X h' d v := RdD.go k Sub.refl d v x
theorem Rd.keep {d : Dt} {v : Value} (x : Rd prog w X h d v) (k : Keep h h') : Rd prog w X h' d v := Rd.go k.x.r Sub.refl d v x
theorem Rd.sub {d : Dt} {v : Value} (x : Rd prog w X h d v) (hs : Sub h X Y) : Rd prog w Y h d v := Rd.go (Keep.refl h).x.r hs d v x
theorem RdL.keepX {d : List Dt} {v : List Value} (x : RdL prog w X h d v) (k : KeepX X h h') : RdL prog w X h' d v := RdL.go k.r Sub.refl d v x
theorem RdL.keep {d : List Dt} {v : List Value} (x : RdL prog w X h d v) (k : Keep h h') : RdL prog w X h' d v := RdL.go k.x.r Sub.refl d v x
theorem RdL.sub {d : List Dt} {v : List Value} (x : RdL prog w X h d v) (hs : Sub h X Y) : RdL prog w Y h d v := RdL.go (Keep.refl h).x.r hs d v x
theorem RdD.keepX {d : List (List Int × Dt)} {v : List (List Int × Addr × Value)} (x : RdD prog w X h d v) (k : KeepX X h h') : RdD prog w X h' d v := RdD.go k.r Sub.refl d v x
theorem RdD.keep {d : List (List Int × Dt)} {v : List (List Int × Addr × Value)} (x : RdD prog w X h d v) (k : Keep h h') : RdD prog w X h' d v := RdD.go k.x.r Sub.refl d v x
theorem RdD.sub {d : List (List Int × Dt)} {v : List (List Int × Addr × Value)} (x : RdD prog w X h d v) (hs : Sub h X Y) : RdD prog w Y h d v := RdD.go (Keep.refl h).x.r hs d v x

theorem DictE.keep {a : Addr} {xs : List (List Int × Addr × Value)} (x : DictE prog w h a xs) (k : Keep h h') : DictE prog w h' a xs :=
  DictE.keepR (X := fun _ => False) x (fun q => q) k.x.r
theorem RdC.keep : ∀ {d : Dt} {v : Value}, RdC prog w X h d v → Keep h h' → RdC prog w X h' d v := by
  intro d v x k
  cases d with
  | list l =>
    obtain ⟨a, items, e, ht, hl⟩ := x
    exact ⟨a, items, e, ht.at (k _), hl.keep k⟩
  | plist l =>
    obtain ⟨a, items, e, ht, hl⟩ := x
    exact ⟨a, items, e, ht.at (k _), hl.keep k⟩
  | dict l =>
    obtain ⟨a, xs, e, h2, ht, hl⟩ := x
    exact ⟨a, xs, e, h2, DictE.keep ht k, hl.keep k⟩
  | _ => exact Rd.keep x k
theorem RdC.keepR : ∀ {d : Dt} {a : Addr}, RdC prog w X h d (.ref a) → KeepR X h h' → (∀ o, h.get? a = some o → h'.get? a = some o) → RdC prog w X h' d (.ref a) := by
  intro d a x k ka
  cases d with
  | list l =>
    obtain ⟨a', items, e, ht, hl⟩ := x
    cases e
    exact ⟨a, items, rfl, ht.at ka, hl.keepR k⟩
  | plist l =>
    obtain ⟨a', items, e, ht, hl⟩ := x
    cases e
    exact ⟨a, items, rfl, ht.at ka, hl.keepR k⟩
  | dict l =>
    obtain ⟨a', xs, e, h2, ⟨o, es, ep, ho, hc, hd, he, hk, hn⟩, hl⟩ := x
    cases e
    refine ⟨a, xs, rfl, h2, ⟨o, es, ep, ka _ ho, hc, hd, he, fun y hy => ?_, hn⟩, hl.keepR k⟩
    obtain ⟨o', items, n, ho', hc', hd', hi⟩ := hk y hy
    exact ⟨o', items, n, k _ _ ho' (.inl ⟨hc', items, n, hd'⟩), hc', hd', hi⟩
  | _ => exact Rd.keepR x k
theorem RdC.keepX {d : Dt} {a : Addr} (x : RdC prog w X h d (.ref a)) (k : KeepX X h h') (ka : ∀ o, h.get? a = some o → h'.get? a = some o) : RdC prog w X h' d (.ref a) := RdC.keepR x k.r ka
theorem RdC.sub : ∀ {d : Dt} {v : Value}, RdC prog w X h d v → Sub h X Y → RdC prog w Y h d v := by
  intro d v x k
  cases d with
  | list l => obtain ⟨a, items, e, ht, hl⟩ := x; exact ⟨a, items, e, ht, hl.sub k⟩
  | plist l => obtain ⟨a, items, e, ht, hl⟩ := x; exact ⟨a, items, e, ht, hl.sub k⟩
  | dict l => obtain ⟨a, xs, e, h2, ht, hl⟩ := x; exact ⟨a, xs, e, h2, ht, hl.sub k⟩
  | _ => exact Rd.sub x k
theorem RdC.rd : ∀ {d : Dt} {a : Addr}, RdC prog w X h d (.ref a) → ¬ X a → Rd prog w X h d (.ref a) := by
  intro d a x hX
  cases d with
  | list l => obtain ⟨a', items, e, ht, hl⟩ := x; cases e; simp only [Rd]; exact ⟨a, items, rfl, hX, ht, hl⟩
  | plist l => obtain ⟨a', items, e, ht, hl⟩ := x; cases e; simp only [Rd]; exact ⟨a, items, rfl, hX, ht, hl⟩
  | dict l => obtain ⟨a', xs, e, h2, ht, hl⟩ := x; cases e; simp only [Rd]; exact ⟨a, xs, rfl, hX, h2, ht, hl⟩
  | _ => exact x
theorem Rd.c : ∀ {d : Dt} {v : Value}, Rd prog w X h d v → RdC prog w X h d v := by
  intro d v x
  cases d with
  | list l => simp only [Rd] at x; obtain ⟨a, items, e, _, ht, hl⟩ := x; exact ⟨a, items, e, ht, hl⟩
  | plist l => simp only [Rd] at x; obtain ⟨a, items, e, _, ht, hl⟩ := x; exact ⟨a, items, e, ht, hl⟩
  | dict l => simp only [Rd] at x; obtain ⟨a, xs, e, _, h2, ht, hl⟩ := x; exact ⟨a, xs, e, h2, ht, hl⟩
  | _ => exact x
theorem Rd.plain {l : List Dt} {v : Value} (x : Rd prog w X h (.plist l) v) : Rd prog w X h (.list l) v := by
  simp only [Rd] at x ⊢
  obtain ⟨a, items, e, hX, ht, hl⟩ := x
  exact ⟨a, items, e, hX, ht.isList, hl⟩
theorem RdC.plain {l : List Dt} {v : Value} (x : RdC prog w X h (.plist l) v) : RdC prog w X h (.list l) v := by
  obtain ⟨a, items, e, ht, hl⟩ := x
  exact ⟨a, items, e, ht.isList, hl⟩
end

end Mine
end

section
open PySem PySem.W PyProof.Rows PySem.Calls
set_option autoImplicit false
set_option maxRecDepth 100000
namespace Mine

noncomputable def dfAt (i : Nat) : DefRec := match PySem.Challenge.pw_xm0120_01.main.body[i]? with
  | some (.FunctionDef name params body _ _ _ scope _ _ pos) => ⟨name, params, body, scope, pos⟩
  | _ => ⟨Str.empty, ⟨[], [], none, [], [], none, []⟩, [], default, default⟩

noncomputable def defIdx : List Nat := [1, 5, 6, 11, 12, 13, 14, 15, 16, 18, 19, 20, 21, 22, 23, 24, 25, 26, 27, 29, 30, 31, 32, 33, 34, 35, 36, 37]
noncomputable def bnames : List Str := ["tuple", "enumerate", "abs", "max", "range", "len", "sum", "list", "dict", "int"]

/-- what stands at the top, for good -/
structure Sta (base : Heap) (mg mb : Str → Option Value) : Prop where
  g : base.Ns mainGlobals mg
  b : base.Ns builtinsNs mb
  nolimit : base.NoLimit
  builtins : ∀ x : Str, x ≠ "__name__" → mb x = bootBuiltins x
  free : ∀ x ∈ bnames, mg x = none
  fn : ∀ i ∈ defIdx, ∃ a o pm code doc, mg (dfAt i).name = some (.ref a) ∧ base.get? a = some o ∧ o.data = .func (docDef (dfAt i).name (dfAt i).params (dfAt i).body (dfAt i).scope pm code doc) ∧ base.CodeRec code (dfAt i).name
  r0 : ∃ a t u, mg "R0" = some (.ref a) ∧ IsTup base a #[.int 0 t, .int 1 u]
  r1 : ∃ a t u, mg "R1" = some (.ref a) ∧ IsTup base a #[.int 1 t, .int 1 u]

theorem Sta.lt {base : Heap} {mg mb : Str → Option Value} (S : Sta base mg mb) : 3 < base.objs.size := S.g.lt

/-- what a call is made within -/
structure Fx where
  prog : Program
  w : World
  base : Heap
  mg : Str → Option Value
  mb : Str → Option Value
  A : Around
  env : Env
  s₀ : Shared
  W : Addr → Prop
  Xc : Addr → Prop

noncomputable def Room (k : Nat) (A : Around) : Prop := A.handled = none ∧ A.depth + k < recursionLimit ∧ A.units + 8 * k + 64 < cLine

theorem Room.mono {k j : Nat} {A : Around} (h : Room k A) (hj : j ≤ k) : Room j A := ⟨h.1, by have := h.2.1; omega, by have := h.2.2; omega⟩
theorem Room.deeper {k : Nat} {A : Around} (h : Room (k + 1) A) (env : Env) : Room k (A.deeper env) :=
  ⟨h.1, by have := h.2.1; show A.depth + 1 + k < _; omega, by have := h.2.2; rw [Around.deeper_units]; omega⟩

/-- a name of a frame has a value -/
noncomputable def Has (env : Env) (h : Heap) (x : Str) (v : Value) : Prop :=
  (x == ("__debug__" : Str)) = false ∧
  ((env.kindOf x = some .local ∧ ∃ m, h.Ns env.locals m ∧ m x = some v) ∨
  (((env.kindOf x = some .cell) ∨ (env.kindOf x = some .free ∧ (x == ("__classdict__" : Str)) = false)) ∧ ∃ c, env.cells.lookup x = some c ∧ h.IsCell c (some v)))

structure Ix where
  X : Addr → Prop
  Γ : List (Str × Option Dt)
  Ω : List (Str × Addr × Dt)

structure St (F : Fx) (σ : Ix) (s : Shared) : Prop where
  sh : ∃ h tk, s = { F.s₀ with heap := h, toks := tk }
  keep : ∀ b o, ¬ F.W b → F.s₀.heap.get? b = some o → s.heap.get? b = some o
  sta : Sta F.base F.mg F.mb
  base : Keep F.base s.heap
  basein : ∀ b o, F.base.get? b = some o → b < F.s₀.heap.objs.size
  kind : F.env.scope.kind = .function
  globals : F.env.globals = mainGlobals
  builtins : F.env.builtins = builtinsNs
  loc : ∃ m, s.heap.Ns F.env.locals m
  locX : σ.X F.env.locals
  locN : F.s₀.heap.objs.size ≤ F.env.locals
  cells : ∀ x c, F.env.cells.lookup x = some c → (∃ v, s.heap.IsCell c v) ∧ σ.X c ∧ F.s₀.heap.objs.size ≤ c ∧ c ≠ F.env.locals
  apart : ∀ x y c, F.env.cells.lookup x = some c → F.env.cells.lookup y = some c → x = y
  xin : ∀ a, σ.X a → ∃ o, s.heap.get? a = some o
  xc : ∀ a, F.Xc a → σ.X a
  xclt : ∀ a, F.Xc a → ∃ o, F.s₀.heap.get? a = some o
  names : (σ.Γ.map (·.1)).Nodup
  vals : ∀ x d, (x, some d) ∈ σ.Γ → ∃ v, Has F.env s.heap x v ∧ Rd F.prog F.w σ.X s.heap d v
  own : ∀ p ∈ σ.Ω, Has F.env s.heap p.1 (.ref p.2.1) ∧ RdC F.prog F.w σ.X s.heap p.2.2 (.ref p.2.1) ∧ σ.X p.2.1 ∧ ((F.s₀.heap.get? p.2.1 = none ∨ F.W p.2.1) ∧ F.base.get? p.2.1 = none) ∧
    p.2.1 ≠ F.env.locals ∧ (∀ x c, F.env.cells.lookup x = some c → c ≠ p.2.1)

theorem Has.keep {env : Env} {h h' : Heap} {x : Str} {v : Value} (H : Has env h x v) (k : Keep h h') : Has env h' x v := by
  obtain ⟨d, H⟩ := H
  refine ⟨d, ?_⟩
  rcases H with ⟨a, m, hm, e⟩ | ⟨a, c, hc, hv⟩
  · exact .inl ⟨a, m, hm.keeps k, e⟩
  · exact .inr ⟨a, c, hc, hv.keeps k⟩

theorem Has.load {M : Model} {A : Around} {E : Value → Shared → Prop} {s : Shared} {env : Env} {x : Str} {v : Value} {pos : Pos} {Q : Value → Shared → Prop} (H : Has env s.heap x v) (hk : env.scope.kind = .function)
    (h : Q v s) : wpAny M A (eval (.Name x pos) env) Q E s := by
  obtain ⟨d, H⟩ := H
  rcases H with ⟨a, m, hm, e⟩ | ⟨a | ⟨a, q⟩, c, hc, hv⟩
  · exact wpAny_Name (wpAny_loadName_local hk a hm e h) d
  · exact wpAny_Name (wpAny_loadName_cell hk a hc hv h) d
  · exact wpAny_Name (wpAny_loadName_free hk a hc hv h q) d

theorem xin_keep {X : Addr → Prop} {h h' : Heap} (hx : ∀ a, X a → ∃ o, h.get? a = some o) (k : Keep h h') : ∀ a, X a → ∃ o, h'.get? a = some o :=
  fun a ha => let ⟨o, e⟩ := hx a ha; ⟨o, k _ _ e⟩

/-- all that stood stands -/
noncomputable def Kp (s s' : Shared) : Prop := ∃ h' tk, s' = { s with heap := h', toks := tk } ∧ ∀ b o, s.heap.get? b = some o → h'.get? b = some o

noncomputable abbrev Post (F : Fx) (σ : Ix) (d : Dt) (s : Shared) : Value → Shared → Prop := fun v s' => Kp s s' ∧ Rd F.prog F.w σ.X s'.heap d v
noncomputable abbrev PostC (F : Fx) (σ : Ix) (d : Dt) (s : Shared) : Value → Shared → Prop := fun v s' => Kp s s' ∧ RdC F.prog F.w σ.X s'.heap d v
noncomputable abbrev PostL (F : Fx) (σ : Ix) (ds : List Dt) (s : Shared) : List Value → Shared → Prop := fun vs s' => Kp s s' ∧ RdL F.prog F.w σ.X s'.heap ds vs
noncomputable abbrev NoE : Value → Shared → Prop := fun _ _ => False

/-- an expression has the datum d, and changes nothing -/
noncomputable def Ex (F : Fx) (σ : Ix) (e : Expr) (d : Dt) : Prop := ∀ s, St F σ s → wpAny (model F.prog F.w) F.A (eval e F.env) (Post F σ d s) NoE s
noncomputable def ExC (F : Fx) (σ : Ix) (e : Expr) (d : Dt) : Prop := ∀ s, St F σ s → wpAny (model F.prog F.w) F.A (eval e F.env) (PostC F σ d s) NoE s
noncomputable def Tx (F : Fx) (σ : Ix) (e : Expr) (b : Bool) : Prop := ∀ s, St F σ s → wpAny (model F.prog F.w) F.A (isTrue e F.env (eval e F.env)) (fun v s' => Kp s s' ∧ v = b) NoE s
noncomputable def ExL (F : Fx) (σ : Ix) (es : List Expr) (ds : List Dt) : Prop := ∀ s pos, St F σ s → wpAny (model F.prog F.w) F.A (spliced (backTo pos (starEach es F.env))) (PostL F σ ds s) NoE s
noncomputable def Sx (F : Fx) (σ : Ix) (ss : List Stmt) (K : Flow → Shared → Prop) : Prop := ∀ s, St F σ s → wpAny (model F.prog F.w) F.A (execs ss F.env) (fun f s' => K f s' ∧ KeepX σ.X s.heap s'.heap) NoE s
/-- one statement, that goes on -/
noncomputable def Es (F : Fx) (σ : Ix) (st : Stmt) (σ' : Ix) : Prop := ∀ s, St F σ s → wpAny (model F.prog F.w) F.A (exec st F.env) (fun f s' => f = .next ∧ St F σ' s' ∧ KeepX σ.X s.heap s'.heap) NoE s

theorem Kp.refl (s : Shared) : Kp s s := ⟨s.heap, s.toks, rfl, fun _ _ e => e⟩
theorem Kp.trans {s₁ s₂ s₃ : Shared} (x : Kp s₁ s₂) (y : Kp s₂ s₃) : Kp s₁ s₃ := by
  obtain ⟨h, t, rfl, k⟩ := x
  obtain ⟨h', t', rfl, k'⟩ := y
  exact ⟨h', t', rfl, fun b o e => k' _ _ (k _ _ e)⟩
theorem Kp.k {s s' : Shared} (x : Kp s s') : Keep s.heap s'.heap := by obtain ⟨h, t, rfl, k⟩ := x; exact k
theorem Kp.tok (s : Shared) (t : Nat) : Kp s { s with toks := t } := ⟨s.heap, t, rfl, fun _ _ e => e⟩
theorem Kp.mk' {s : Shared} {h' : Heap} {t : Nat} (k : Keep s.heap h') : Kp s { s with heap := h', toks := t } := ⟨h', t, rfl, k⟩


theorem St.keeps {F : Fx} {σ : Ix} {s s' : Shared} (S : St F σ s) (k : Kp s s') : St F σ s' := by
  obtain ⟨h', t', rfl, k⟩ := k
  obtain ⟨h₀, t₀, e⟩ := S.sh
  subst e
  exact { S with
    sh := ⟨h', t', rfl⟩
    keep := fun b o hb e => k _ _ (S.keep b o hb e)
    base := S.base.trans k
    loc := let ⟨m, hm⟩ := S.loc; ⟨m, hm.keeps k⟩
    cells := fun x c e => let ⟨⟨v, hv⟩, r⟩ := S.cells x c e; ⟨⟨v, hv.keeps k⟩, r⟩
    xin := fun a ha => let ⟨o, e⟩ := S.xin a ha; ⟨o, k _ _ e⟩
    vals := fun x d hp => let ⟨v, hv, hr⟩ := S.vals x d hp; ⟨v, hv.keep k, hr.keep k⟩
    own := fun p hp => let ⟨a, b, r⟩ := S.own p hp; ⟨a.keep k, b.keep k, r⟩ }

theorem Ns.uniq {h : Heap} {a : Addr} {m m' : Str → Option Value} (x : h.Ns a m) (y : h.Ns a m') : m = m' := by
  obtain ⟨o, es, ep, ho, hd, _, hm⟩ := x
  obtain ⟨o', es', ep', ho', hd', _, hm'⟩ := y
  rw [ho] at ho'; cases ho'
  rw [hd] at hd'; cases hd'
  funext n
  rw [← hm, ← hm']

/-- the entry of x has the datum d now -/
inductive SetAt (x : Str) (d : Dt) : List (Str × Option Dt) → List (Str × Option Dt) → Prop
  | head {o : Option Dt} {Γ : List (Str × Option Dt)} : SetAt x d ((x, o) :: Γ) ((x, some d) :: Γ)
  | tail {p : Str × Option Dt} {Γ Γ' : List (Str × Option Dt)} : SetAt x d Γ Γ' → SetAt x d (p :: Γ) (p :: Γ')
theorem SetAt.names {x : Str} {d : Dt} {Γ Γ' : List (Str × Option Dt)} (h : SetAt x d Γ Γ') : Γ'.map (·.1) = Γ.map (·.1) := by
  induction h with
  | head => rfl
  | tail _ ih => simp only [List.map_cons, ih]
theorem SetAt.mem {x : Str} {d : Dt} {Γ Γ' : List (Str × Option Dt)} (h : SetAt x d Γ Γ') : x ∈ Γ.map (·.1) := by
  induction h with
  | head => exact List.mem_cons_self
  | tail _ ih => exact List.mem_cons_of_mem _ ih
theorem SetAt.other {x : Str} {d : Dt} {Γ Γ' : List (Str × Option Dt)} (h : SetAt x d Γ Γ') (hn : (Γ.map (·.1)).Nodup) : ∀ y o, (y, o) ∈ Γ' → (y = x ∧ o = some d) ∨ (y ≠ x ∧ (y, o) ∈ Γ) := by
  induction h with
  | head =>
    intro y o hm
    rcases List.mem_cons.mp hm with e | hm2
    · cases e; exact .inl ⟨rfl, rfl⟩
    · refine .inr ⟨fun e => ?_, List.mem_cons_of_mem _ hm2⟩
      exact (List.nodup_cons.mp hn).1 (List.mem_map.mpr ⟨(y, o), hm2, e⟩)
  | tail h' ih =>
    intro y o hm
    rcases List.mem_cons.mp hm with e | hm
    · refine .inr ⟨fun q => ?_, by rw [e]; exact List.mem_cons_self⟩
      subst q
      refine (List.nodup_cons.mp hn).1 ?_
      have := h'.mem
      rw [← e]; exact this
    · rcases ih (List.nodup_cons.mp hn).2 y o hm with q | q
      · exact .inl q
      · exact .inr ⟨q.1, List.mem_cons_of_mem _ q.2⟩

/-- a change of one excluded address that is no tuple -/
theorem keepX_of {X : Addr → Prop} {h h' : Heap} {c : Addr} (hs : Heap.SameBut c h h') (hX : X c) (hn : ∀ o, h.get? c = some o → ¬ IsT o) : KeepX X h h' := fun b o e q => by
  by_cases hb : b = c
  · subst hb
    rcases q with q | q
    · exact absurd hX q
    · exact absurd q (hn o e)
  · rw [hs.2 b hb]; exact e
theorem notT_ns {h : Heap} {a : Addr} {m : Str → Option Value} (x : h.Ns a m) : ∀ o, h.get? a = some o → ¬ IsT o := fun o e q => by
  obtain ⟨o', es, ep, ho, hd, _⟩ := x
  rw [ho] at e; cases e
  obtain ⟨_, i, n, hd'⟩ := q
  rw [hd] at hd'; cases hd'
theorem notT_cell {h : Heap} {a : Addr} {v : Option Value} (x : h.IsCell a v) : ∀ o, h.get? a = some o → ¬ IsT o := fun o e q => by
  obtain ⟨o', ho, hd⟩ := x
  rw [ho] at e; cases e
  obtain ⟨_, i, n, hd'⟩ := q
  rw [hd] at hd'; cases hd'
theorem same_some {h h' : Heap} {a c : Addr} (hs : Heap.SameBut c h h') : (∃ o, h.get? a = some o) → (∃ o, h'.get? c = some o) → ∃ o, h'.get? a = some o := fun ⟨o, e⟩ h2 => by
  by_cases hb : a = c
  · subst hb; exact h2
  · exact ⟨o, by rw [hs.2 a hb]; exact e⟩

theorem St.storeL {F : Fx} {σ : Ix} {s : Shared} (S : St F σ s) {x : Str} {d : Dt} {v : Value} {Γ' : List (Str × Option Dt)} (hk : F.env.kindOf x = some .local)
    (hd : (x == ("__debug__" : Str)) = false) (r : Rd F.prog F.w σ.X s.heap d v) (hset : SetAt x d σ.Γ Γ') (hΩ : ∀ p ∈ σ.Ω, p.1 ≠ x) :
    wpAny (model F.prog F.w) F.A (storeName F.env x v) (fun _ s' => St F ⟨σ.X, Γ', σ.Ω⟩ s' ∧ KeepX σ.X s.heap s'.heap ∧ ∀ b o, b ≠ F.env.locals → s.heap.get? b = some o → s'.heap.get? b = some o) NoE s := by
  obtain ⟨h₀, t₀, e₀⟩ := S.sh
  obtain ⟨m, hm⟩ := S.loc
  refine wpAny_storeName_local hk hm (fun h' hn' hs => ?_) (by rw [S.kind]; rfl)
  have kx : KeepX σ.X s.heap h' := keepX_of hs S.locX (notT_ns hm)
  have keepb : ∀ b o, b ≠ F.env.locals → s.heap.get? b = some o → h'.get? b = some o := fun b o hb e => by rw [hs.2 b hb]; exact e
  have hL : ∃ o, h'.get? F.env.locals = some o := by obtain ⟨o, _, _, e, _⟩ := hn'; exact ⟨o, e⟩
  have hbase : ∀ b o, F.s₀.heap.get? b = some o → b ≠ F.env.locals := fun b o e q => by
    have h1 := Heap.lt_size e
    subst q
    exact Nat.lt_irrefl _ (Nat.lt_of_lt_of_le h1 S.locN)
  have has : ∀ y u, y ≠ x → Has F.env s.heap y u → Has F.env h' y u := fun y u hy H => by
    refine ⟨H.1, ?_⟩
    rcases H.2 with ⟨a, m₂, hm₂, e⟩ | ⟨a, c, hc, hv⟩
    · refine .inl ⟨a, _, hn', ?_⟩
      rw [if_neg hy, Ns.uniq hm hm₂]; exact e
    · refine .inr ⟨a, c, hc, hv.sameBut hs ?_⟩
      exact (S.cells _ _ hc).2.2.2
  refine ⟨?_, kx, keepb⟩
  exact {
    sh := ⟨h', _, by rw [e₀]⟩
    keep := fun b o hb e => keepb b o (hbase b o e) (S.keep b o hb e)
    sta := S.sta
    base := fun b o e => keepb b o (fun q => by
      subst q
      have h1 := Heap.lt_size e
      have : ∀ b o, F.base.get? b = some o → b < F.s₀.heap.objs.size := S.basein
      exact Nat.lt_irrefl _ (Nat.lt_of_lt_of_le (this _ _ e) S.locN)) (S.base b o e)
    basein := S.basein
    kind := S.kind
    globals := S.globals
    builtins := S.builtins
    loc := ⟨_, hn'⟩
    locX := S.locX
    locN := S.locN
    cells := fun y c e => let ⟨⟨u, hu⟩, q⟩ := S.cells y c e; ⟨⟨u, hu.sameBut hs q.2.2⟩, q⟩
    apart := S.apart
    xin := fun a ha => same_some hs (S.xin a ha) hL
    xc := S.xc
    xclt := S.xclt
    names := by rw [hset.names]; exact S.names
    vals := fun y e hy => by
      rcases hset.other S.names y (some e) hy with ⟨q1, q2⟩ | ⟨q1, q2⟩
      · subst q1; cases q2
        exact ⟨v, ⟨hd, .inl ⟨hk, _, hn', by rw [if_pos rfl]⟩⟩, r.keepX kx⟩
      · obtain ⟨u, hu, ru⟩ := S.vals y e q2
        exact ⟨u, has y u q1 hu, ru.keepX kx⟩
    own := fun p hp => by
      obtain ⟨H, R, q⟩ := S.own p hp
      exact ⟨has _ _ (hΩ p hp) H, R.keepX kx (fun o e => keepb _ _ q.2.2.1 e), q⟩ }

theorem St.store {F : Fx} {σ : Ix} {s : Shared} (S : St F σ s) {x : Str} {d : Dt} {v : Value} {Γ' : List (Str × Option Dt)} (hk : F.env.kindOf x = some .local ∨ (F.env.kindOf x = some .cell ∧ (F.env.cells.lookup x).isSome = true))
    (hd : (x == ("__debug__" : Str)) = false) (r : Rd F.prog F.w σ.X s.heap d v) (hset : SetAt x d σ.Γ Γ') (hΩ : ∀ p ∈ σ.Ω, p.1 ≠ x) :
    wpAny (model F.prog F.w) F.A (storeName F.env x v) (fun _ s' => St F ⟨σ.X, Γ', σ.Ω⟩ s' ∧ KeepX σ.X s.heap s'.heap) NoE s := by
  obtain ⟨h₀, t₀, e₀⟩ := S.sh
  obtain ⟨m, hm⟩ := S.loc
  rcases hk with hk | ⟨hk, hc⟩
  · exact wpAny_mono (S.storeL hk hd r hset hΩ) (fun _ _ q => ⟨q.1, q.2.1⟩) fun _ _ e => e
  · obtain ⟨c, hc⟩ := Option.isSome_iff_exists.mp hc
    obtain ⟨⟨v₀, hv₀⟩, hXc, hcN, hcL⟩ := S.cells x c hc
    refine wpAny_storeName_cell S.kind hk hc hv₀ (fun h' hn' hs => ?_)
    have kx : KeepX σ.X s.heap h' := keepX_of hs hXc (notT_cell hv₀)
    have keepb : ∀ b o, b ≠ c → s.heap.get? b = some o → h'.get? b = some o := fun b o hb e => by rw [hs.2 b hb]; exact e
    have hL : ∃ o, h'.get? c = some o := by obtain ⟨o, e, _⟩ := hn'; exact ⟨o, e⟩
    have hbase : ∀ b o, F.s₀.heap.get? b = some o → b ≠ c := fun b o e q => by
      have h1 := Heap.lt_size e
      subst q
      exact Nat.lt_irrefl _ (Nat.lt_of_lt_of_le h1 hcN)
    have has : ∀ y u, y ≠ x → Has F.env s.heap y u → Has F.env h' y u := fun y u hy H => by
      refine ⟨H.1, ?_⟩
      rcases H.2 with ⟨a, m₂, hm₂, e⟩ | ⟨a, c', hc', hv⟩
      · exact .inl ⟨a, m₂, hm₂.sameBut hs (Ne.symm hcL), e⟩
      · refine .inr ⟨a, c', hc', hv.sameBut hs fun q => ?_⟩
        subst q
        exact hy (S.apart _ _ _ hc' hc)
    refine ⟨?_, kx⟩
    exact {
      sh := ⟨h', s.toks, by rw [e₀]⟩
      keep := fun b o hb e => keepb b o (hbase b o e) (S.keep b o hb e)
      sta := S.sta
      base := fun b o e => keepb b o (fun q => by
        subst q
        exact Nat.lt_irrefl _ (Nat.lt_of_lt_of_le (S.basein _ _ e) hcN)) (S.base b o e)
      basein := S.basein
      kind := S.kind
      globals := S.globals
      builtins := S.builtins
      loc := ⟨m, hm.sameBut hs (Ne.symm hcL)⟩
      locX := S.locX
      locN := S.locN
      cells := fun y c' e => by
        obtain ⟨⟨u, hu⟩, q⟩ := S.cells y c' e
        by_cases hcc : c' = c
        · subst hcc; exact ⟨⟨_, hn'⟩, q⟩
        · exact ⟨⟨u, hu.sameBut hs hcc⟩, q⟩
      apart := S.apart
      xin := fun a ha => same_some hs (S.xin a ha) hL
      xc := S.xc
      xclt := S.xclt
      names := by rw [hset.names]; exact S.names
      vals := fun y e hy => by
        rcases hset.other S.names y (some e) hy with ⟨q1, q2⟩ | ⟨q1, q2⟩
        · subst q1; cases q2
          exact ⟨v, ⟨hd, .inr ⟨.inl hk, c, hc, hn'⟩⟩, r.keepX kx⟩
        · obtain ⟨u, hu, ru⟩ := S.vals y e q2
          exact ⟨u, has y u q1 hu, ru.keepX kx⟩
      own := fun p hp => by
        obtain ⟨H, R, q⟩ := S.own p hp
        exact ⟨has _ _ (hΩ p hp) H, R.keepX kx (fun o e => keepb _ _ (fun z => q.2.2.2 _ _ hc z.symm) e), q⟩ }

/-- a change of addresses that nothing read stands at -/
theorem St.off {F : Fx} {σ : Ix} {s : Shared} (S : St F σ s) {h' : Heap} {tk : Nat} (wr : List Addr) (hk : ∀ b o, b ∉ wr → s.heap.get? b = some o → h'.get? b = some o)
    (ho : ∀ b ∈ wr, ∃ o, s.heap.get? b = some o ∧ ¬ Rdb σ.X b o) (hl : ∀ b ∈ wr, b ≠ F.env.locals) (hc : ∀ b ∈ wr, ∀ x c, F.env.cells.lookup x = some c → c ≠ b) (hw : ∀ b ∈ wr, ∀ p ∈ σ.Ω, p.2.1 ≠ b)
    (hx : ∀ b ∈ wr, σ.X b → ∃ o, h'.get? b = some o) (h0 : ∀ b ∈ wr, ∀ o, ¬ F.W b → F.s₀.heap.get? b ≠ some o) (hb : ∀ b ∈ wr, F.base.get? b = none) :
    St F σ { s with heap := h', toks := tk } := by
  obtain ⟨h₀, t₀, e⟩ := S.sh
  have kr : KeepR σ.X s.heap h' := fun b o e q => hk b o (fun hm => by
    obtain ⟨o', e', n⟩ := ho b hm
    rw [e] at e'; cases e'
    exact n q) e
  have kl : ∀ o, s.heap.get? F.env.locals = some o → h'.get? F.env.locals = some o := fun o e => hk _ o (fun hm => hl _ hm rfl) e
  have kc : ∀ x c, F.env.cells.lookup x = some c → ∀ o, s.heap.get? c = some o → h'.get? c = some o := fun x c q o e => hk _ o (fun hm => hc _ hm x c q rfl) e
  have has : ∀ x v, Has F.env s.heap x v → Has F.env h' x v := fun x v H => by
    refine ⟨H.1, ?_⟩
    rcases H.2 with ⟨a, m, hm, e⟩ | ⟨a, c, hc, o, ho, hd⟩
    · exact .inl ⟨a, m, hm.at' kl, e⟩
    · exact .inr ⟨a, c, hc, o, kc x c hc _ ho, hd⟩
  exact {
    sh := ⟨h', tk, by rw [e]⟩
    keep := fun b o hw e => hk b o (fun hm => h0 b hm o hw e) (S.keep b o hw e)
    sta := S.sta
    base := fun b o e => hk b o (fun hm => by rw [hb b hm] at e; cases e) (S.base b o e)
    basein := S.basein
    kind := S.kind
    globals := S.globals
    builtins := S.builtins
    loc := let ⟨m, hm⟩ := S.loc; ⟨m, hm.at' kl⟩
    locX := S.locX
    locN := S.locN
    cells := fun x c e => by
      obtain ⟨⟨v, o, ho', hd⟩, q⟩ := S.cells x c e
      exact ⟨⟨v, o, kc x c e _ ho', hd⟩, q⟩
    apart := S.apart
    xin := fun a ha => by
      by_cases hm : a ∈ wr
      · exact hx a hm ha
      · exact let ⟨o, e⟩ := S.xin a ha; ⟨o, hk _ _ hm e⟩
    xc := S.xc
    xclt := S.xclt
    names := S.names
    vals := fun x d hx => let ⟨v, H, r⟩ := S.vals x d hx; ⟨v, has x v H, r.keepR kr⟩
    own := fun p hp => let ⟨H, r, q⟩ := S.own p hp; ⟨has _ _ H, r.keepR kr (fun o e => hk _ o (fun hm => hw _ hm p hp rfl) e), q⟩ }

/-- fewer addresses excluded -/
theorem St.less {F : Fx} {X Y : Addr → Prop} {Γ : List (Str × Option Dt)} {Ω : List (Str × Addr × Dt)} {s : Shared} (S : St F ⟨X, Γ, Ω⟩ s) (hy : ∀ a, Y a → X a) (hl : Y F.env.locals)
    (hc : ∀ x c, F.env.cells.lookup x = some c → Y c) (ho : ∀ p ∈ Ω, Y p.2.1) (hxc : ∀ a, F.Xc a → Y a) : St F ⟨Y, Γ, Ω⟩ s :=
  { S with
    locX := hl
    cells := fun x c e => let ⟨a, _, b⟩ := S.cells x c e; ⟨a, hc x c e, b⟩
    xin := fun a ha => S.xin a (hy a ha)
    xc := hxc
    vals := fun x d hx => let ⟨v, H, r⟩ := S.vals x d hx; ⟨v, H, r.sub fun a ha => .inl (hy a ha)⟩
    own := fun p hp => let ⟨H, r, _, q⟩ := S.own p hp; ⟨H, r.sub fun a ha => .inl (hy a ha), ho p hp, q⟩ }
/-- more, that stand nowhere yet -/
theorem St.more {F : Fx} {X Y : Addr → Prop} {Γ : List (Str × Option Dt)} {Ω : List (Str × Addr × Dt)} {s s' : Shared} (S : St F ⟨X, Γ, Ω⟩ s) (hy : ∀ a, X a → Y a) (hn : ∀ a, Y a → X a ∨ s.heap.get? a = none) (k : Kp s s') (hin : ∀ a, Y a → ∃ o, s'.heap.get? a = some o) : St F ⟨Y, Γ, Ω⟩ s' := by
  have S' := S.keeps k
  exact { S' with
    locX := hy _ S'.locX
    cells := fun x c e => let ⟨a, b, q⟩ := S'.cells x c e; ⟨a, hy _ b, q⟩
    xin := hin
    xc := fun a ha => hy _ (S'.xc a ha)
    vals := fun x d hx => let ⟨v, H, r⟩ := S.vals x d hx; ⟨v, H.keep k.k, (r.sub hn).keep k.k⟩
    own := fun p hp => let ⟨H, r, b, q⟩ := S.own p hp; ⟨H.keep k.k, (r.sub hn).keep k.k, hy _ b, q⟩ }

end Mine
end

section
open PySem PySem.W PyProof.Rows PySem.Calls
set_option autoImplicit false
set_option maxRecDepth 100000
namespace Mine

/-! ## sizes of ints -/
noncomputable def Sml (k : Nat) (i : Int) : Prop := i.natAbs < 2 ^ k
theorem Sml.bits {k : Nat} {i : Int} (h : Sml k i) : Builtin.Int.intBits i ≤ k := by
  unfold Builtin.Int.intBits
  split
  · exact Nat.zero_le _
  · rename_i hi
    have h0 : i.natAbs ≠ 0 := by simpa using hi
    exact (Nat.log2_lt h0).mpr h
theorem Sml.log2 {k : Nat} {i : Int} (h : Sml k i) (hk : 0 < k) : i.natAbs.log2 < k := by
  by_cases h0 : i.natAbs = 0
  · rw [h0]; simpa using hk
  · exact (Nat.log2_lt h0).mpr h
theorem Sml.mono {k j : Nat} {i : Int} (h : Sml k i) (hk : k ≤ j) : Sml j i := Nat.lt_of_lt_of_le h (Nat.pow_le_pow_right (by decide) hk)
theorem Sml.mul {k j : Nat} {a b : Int} (ha : Sml k a) (hb : Sml j b) : Sml (k + j) (a * b) := by
  unfold Sml at *
  rw [Int.natAbs_mul, Nat.pow_add]
  exact Nat.mul_lt_mul'' ha hb
theorem Sml.add {k j : Nat} {a b : Int} (ha : Sml k a) (hb : Sml j b) : Sml (max k j + 1) (a + b) := by
  have ha' := ha.mono (Nat.le_max_left k j)
  have hb' := hb.mono (Nat.le_max_right k j)
  unfold Sml at *
  rw [Nat.pow_succ]
  have := Int.natAbs_add_le a b
  omega
theorem Sml.neg {k : Nat} {a : Int} (ha : Sml k a) : Sml k (-a) := by unfold Sml at *; rwa [Int.natAbs_neg]
theorem Sml.mulOk {a b : Int} (ha : Sml 1048576 a) (hb : Sml 1048576 b) : IntMulOk a b := IntMulOk.of_bits (by rw [show (2:Nat)^20 = 1048576 from by decide]; exact ha.bits) (by rw [show (2:Nat)^20 = 1048576 from by decide]; exact hb.bits)

section
variable {F : Fx} {σ : Ix} {s : Shared}

theorem St.room {k : Nat} (_S : St F σ s) (h : Room k F.A) : F.A.handled = none := h.1

/-! ## two expressions, one behind the other -/
theorem ev1 {l : Expr} {d₁ : Dt} {t : Value → Sem Value} {Q : Value → Shared → Prop} (h1 : Ex F σ l d₁) (S : St F σ s)
    (k : ∀ v₁ s', Kp s s' → St F σ s' → Rd F.prog F.w σ.X s'.heap d₁ v₁ → wpAny (model F.prog F.w) F.A (t v₁) Q NoE s') :
    wpAny (model F.prog F.w) F.A (eval l F.env) (fun a s₁ => wpAny (model F.prog F.w) F.A (t a) Q NoE s₁) NoE s :=
  wpAny_mono (h1 s S) (fun a s₁ ⟨k1, r1⟩ => k a s₁ k1 (S.keeps k1) r1) fun _ _ e => e
theorem ev2 {l r : Expr} {d₁ d₂ : Dt} {t : Value → Value → Sem Value} {Q : Value → Shared → Prop} (h1 : Ex F σ l d₁) (h2 : Ex F σ r d₂) (S : St F σ s)
    (k : ∀ v₁ v₂ s', Kp s s' → St F σ s' → Rd F.prog F.w σ.X s'.heap d₁ v₁ → Rd F.prog F.w σ.X s'.heap d₂ v₂ → wpAny (model F.prog F.w) F.A (t v₁ v₂) Q NoE s') :
    wpAny (model F.prog F.w) F.A (eval l F.env) (fun a s₁ => wpAny (model F.prog F.w) F.A (eval r F.env) (fun b s₂ => wpAny (model F.prog F.w) F.A (t a b) Q NoE s₂) NoE s₁) NoE s :=
  wpAny_mono (h1 s S) (fun a s₁ ⟨k1, r1⟩ => wpAny_mono (h2 s₁ (S.keeps k1)) (fun b s₂ ⟨k2, r2⟩ => k a b s₂ (k1.trans k2) ((S.keeps k1).keeps k2) (r1.keep k2.k) r2) fun _ _ e => e) fun _ _ e => e
theorem ev2C {l r : Expr} {d₁ d₂ : Dt} {t : Value → Value → Sem Value} {Q : Value → Shared → Prop} (h1 : ExC F σ l d₁) (h2 : Ex F σ r d₂) (S : St F σ s)
    (k : ∀ v₁ v₂ s', Kp s s' → St F σ s' → RdC F.prog F.w σ.X s'.heap d₁ v₁ → Rd F.prog F.w σ.X s'.heap d₂ v₂ → wpAny (model F.prog F.w) F.A (t v₁ v₂) Q NoE s') :
    wpAny (model F.prog F.w) F.A (eval l F.env) (fun a s₁ => wpAny (model F.prog F.w) F.A (eval r F.env) (fun b s₂ => wpAny (model F.prog F.w) F.A (t a b) Q NoE s₂) NoE s₁) NoE s :=
  wpAny_mono (h1 s S) (fun a s₁ ⟨k1, r1⟩ => wpAny_mono (h2 s₁ (S.keeps k1)) (fun b s₂ ⟨k2, r2⟩ => k a b s₂ (k1.trans k2) ((S.keeps k1).keeps k2) (r1.keep k2.k) r2) fun _ _ e => e) fun _ _ e => e

/-! ## names, constants -/
theorem Ex.name {x : Str} {pos : Pos} {d : Dt} (hm : (x, some d) ∈ σ.Γ) : Ex F σ (.Name x pos) d := fun s S =>
  let ⟨_, H, r⟩ := S.vals _ _ hm; H.load S.kind ⟨Kp.refl s, r⟩
theorem Ex.c {e : Expr} {d : Dt} (h : Ex F σ e d) : ExC F σ e d := fun s S => wpAny_mono (h s S) (fun _ _ q => ⟨q.1, q.2.c⟩) fun _ _ e => e
theorem ExC.own {x : Str} {pos : Pos} {d : Dt} {a : Addr} (hm : (x, a, d) ∈ σ.Ω) : ExC F σ (.Name x pos) d := fun s S =>
  let ⟨H, r, _⟩ := S.own _ hm; H.load S.kind ⟨Kp.refl s, r⟩
theorem Ex.num {i : Int} {k : Nat} {pos : Pos} : Ex F σ (.Constant (.int i) k pos) (.int i) := fun s _ =>
  wpAny_Constant_int ⟨Kp.tok s _, by simp only [Rd]; exact ⟨_, rfl⟩⟩
theorem Ex.nil {k : Nat} {pos : Pos} : Ex F σ (.Constant .none k pos) .none := fun s _ => Constant_none ⟨Kp.refl s, by simp only [Rd]⟩
theorem Ex.boo {b : Bool} {k : Nat} {pos : Pos} : Ex F σ (.Constant (.bool b) k pos) (.bool b) := fun s _ => Constant_bool ⟨Kp.refl s, by simp only [Rd]⟩

theorem Rd.int {prog : Program} {w : World} {X : Addr → Prop} {h : Heap} {i : Int} {t : Tok} : Rd prog w X h (.int i) (.int i t) := by simp only [Rd]; exact ⟨t, rfl⟩
theorem Rd.bool {prog : Program} {w : World} {X : Addr → Prop} {h : Heap} {b : Bool} : Rd prog w X h (.bool b) (.bool b) := by simp only [Rd]
theorem Rd.toInt {prog : Program} {w : World} {X : Addr → Prop} {h : Heap} {i : Int} {v : Value} (x : Rd prog w X h (.int i) v) : ∃ t, v = .int i t := by simpa only [Rd] using x
theorem RdC.toInt {prog : Program} {w : World} {X : Addr → Prop} {h : Heap} {i : Int} {v : Value} (x : RdC prog w X h (.int i) v) : ∃ t, v = .int i t := by simpa only [RdC, Rd] using x
theorem Rd.toBool {prog : Program} {w : World} {X : Addr → Prop} {h : Heap} {b : Bool} {v : Value} (x : Rd prog w X h (.bool b) v) : v = .bool b := by simpa only [Rd] using x
theorem Rd.toTup {prog : Program} {w : World} {X : Addr → Prop} {h : Heap} {l : List Dt} {v : Value} (x : Rd prog w X h (.tup l) v) : ∃ a items, v = .ref a ∧ IsTup h a items ∧ RdL prog w X h l items.toList := by simpa only [Rd] using x
theorem Rd.toList {prog : Program} {w : World} {X : Addr → Prop} {h : Heap} {l : List Dt} {v : Value} (x : Rd prog w X h (.list l) v) : ∃ a items, v = .ref a ∧ ¬ X a ∧ h.IsList a items ∧ RdL prog w X h l items.toList := by simpa only [Rd] using x
theorem Rd.toDict {prog : Program} {w : World} {X : Addr → Prop} {h : Heap} {l : List (List Int × Dt)} {v : Value} (x : Rd prog w X h (.dict l) v) : ∃ a xs, v = .ref a ∧ ¬ X a ∧ 2 < a ∧ DictE prog w h a xs ∧ RdD prog w X h l xs := by simpa only [Rd] using x
theorem Rd.tup {prog : Program} {w : World} {X : Addr → Prop} {h : Heap} {l : List Dt} {a : Addr} {items : Array Value} (x : IsTup h a items) (r : RdL prog w X h l items.toList) : Rd prog w X h (.tup l) (.ref a) := by
  simp only [Rd]; exact ⟨a, items, rfl, x, r⟩
theorem Rd.list {prog : Program} {w : World} {X : Addr → Prop} {h : Heap} {l : List Dt} {a : Addr} {items : Array Value} (hX : ¬ X a) (x : h.IsList a items) (r : RdL prog w X h l items.toList) : Rd prog w X h (.list l) (.ref a) := by
  simp only [Rd]; exact ⟨a, items, rfl, hX, x, r⟩

/-! ## ints -/
theorem post_int {i : Int} {t : Tok} {tk : Nat} : Post F σ (.int i) s (.int i t) { s with toks := tk } := ⟨Kp.tok s _, Rd.int⟩
theorem post_of {d : Dt} {v : Value} {s' s'' : Shared} (k : Kp s s') (h : Post F σ d s' v s'') : Post F σ d s v s'' := ⟨k.trans h.1, h.2⟩

theorem Ex.add {l r : Expr} {a b : Int} {pos : Pos} (h1 : Ex F σ l (.int a)) (h2 : Ex F σ r (.int b)) : Ex F σ (.BinOp l .Add r pos) (.int (a + b)) := fun s S =>
  wpAny_BinOp (ev2 h1 h2 S fun v₁ v₂ s' k S' r1 r2 => by
    obtain ⟨t, rfl⟩ := r1.toInt; obtain ⟨u, rfl⟩ := r2.toInt
    exact PyProof.Rows.add_int (post_of k post_int))
theorem Ex.sub {l r : Expr} {a b : Int} {pos : Pos} (h1 : Ex F σ l (.int a)) (h2 : Ex F σ r (.int b)) : Ex F σ (.BinOp l .Sub r pos) (.int (a - b)) := fun s S =>
  wpAny_BinOp (ev2 h1 h2 S fun v₁ v₂ s' k S' r1 r2 => by
    obtain ⟨t, rfl⟩ := r1.toInt; obtain ⟨u, rfl⟩ := r2.toInt
    exact PyProof.Rows.sub_int' (post_of k post_int))
theorem Ex.mul {l r : Expr} {a b : Int} {pos : Pos} (h1 : Ex F σ l (.int a)) (h2 : Ex F σ r (.int b)) (hm : IntMulOk a b) : Ex F σ (.BinOp l .Mult r pos) (.int (a * b)) := fun s S =>
  wpAny_BinOp (ev2 h1 h2 S fun v₁ v₂ s' k S' r1 r2 => by
    obtain ⟨t, rfl⟩ := r1.toInt; obtain ⟨u, rfl⟩ := r2.toInt
    exact PyProof.Rows.mul_int (post_of k post_int) hm)
theorem Ex.floordiv {l r : Expr} {a b : Int} {pos : Pos} (h1 : Ex F σ l (.int a)) (h2 : Ex F σ r (.int b)) (hb : b ≠ 0) (hs : Sml 9000 b) : Ex F σ (.BinOp l .FloorDiv r pos) (.int (a.fdiv b)) := fun s S =>
  wpAny_BinOp (ev2 h1 h2 S fun v₁ v₂ s' k S' r1 r2 => by
    obtain ⟨t, rfl⟩ := r1.toInt; obtain ⟨u, rfl⟩ := r2.toInt
    exact PyProof.Rows.floordiv_int hb (post_of k post_int) (.inl (PyProof.noPylong_of_log2 (hs.log2 (by decide)))))
theorem Ex.mod {l r : Expr} {a b : Int} {pos : Pos} (h1 : Ex F σ l (.int a)) (h2 : Ex F σ r (.int b)) (hb : b ≠ 0) : Ex F σ (.BinOp l .Mod r pos) (.int (a.fmod b)) := fun s S =>
  wpAny_BinOp (ev2 h1 h2 S fun v₁ v₂ s' k S' r1 r2 => by
    obtain ⟨t, rfl⟩ := r1.toInt; obtain ⟨u, rfl⟩ := r2.toInt
    exact PyProof.Rows.mod_int' hb (post_of k post_int))
theorem Ex.pow {l r : Expr} {a b : Int} {pos : Pos} (h1 : Ex F σ l (.int a)) (h2 : Ex F σ r (.int b)) (hb : 0 ≤ b) (hs : (Builtin.Int.intBits a : Int) * b ≤ 2 ^ 27) : Ex F σ (.BinOp l .Pow r pos) (.int (a ^ b.toNat)) := fun s S =>
  wpAny_BinOp (ev2 h1 h2 S fun v₁ v₂ s' k S' r1 r2 => by
    obtain ⟨t, rfl⟩ := r1.toInt; obtain ⟨u, rfl⟩ := r2.toInt
    exact PyProof.Rows.pow_int hb hs (post_of k post_int))

theorem post_bool {b : Bool} : Post F σ (.bool b) s (.bool b) s := ⟨Kp.refl s, Rd.bool⟩

/-- a comparison of two values: its bool -/
noncomputable def Cp (F : Fx) (σ : Ix) (op : CmpOp) (d₁ d₂ : Dt) (b : Bool) : Prop :=
  ∀ s v₁ v₂, St F σ s → RdC F.prog F.w σ.X s.heap d₁ v₁ → RdC F.prog F.w σ.X s.heap d₂ v₂ → wpAny (model F.prog F.w) F.A (compareOp op v₁ v₂) (Post F σ (.bool b) s) NoE s

theorem Cp.eq {a b : Int} : Cp F σ .Eq (.int a) (.int b) (a == b) := fun s v₁ v₂ _ r1 r2 => by
  obtain ⟨t, rfl⟩ := RdC.toInt r1; obtain ⟨u, rfl⟩ := RdC.toInt r2
  exact PyProof.Rows.eq_int post_bool
theorem Cp.ne {a b : Int} : Cp F σ .NotEq (.int a) (.int b) (a != b) := fun s v₁ v₂ _ r1 r2 => by
  obtain ⟨t, rfl⟩ := RdC.toInt r1; obtain ⟨u, rfl⟩ := RdC.toInt r2
  exact PyProof.Rows.ne_int post_bool
theorem Cp.lt {a b : Int} : Cp F σ .Lt (.int a) (.int b) (decide (a < b)) := fun s v₁ v₂ _ r1 r2 => by
  obtain ⟨t, rfl⟩ := RdC.toInt r1; obtain ⟨u, rfl⟩ := RdC.toInt r2
  exact PyProof.Rows.lt_int post_bool
theorem Cp.gt {a b : Int} : Cp F σ .Gt (.int a) (.int b) (decide (b < a)) := fun s v₁ v₂ _ r1 r2 => by
  obtain ⟨t, rfl⟩ := RdC.toInt r1; obtain ⟨u, rfl⟩ := RdC.toInt r2
  exact PyProof.Rows.gt_int post_bool
theorem Cp.le {a b : Int} : Cp F σ .LtE (.int a) (.int b) (decide (a ≤ b)) := fun s v₁ v₂ _ r1 r2 => by
  obtain ⟨t, rfl⟩ := RdC.toInt r1; obtain ⟨u, rfl⟩ := RdC.toInt r2
  exact PyProof.Rows.le_int post_bool
theorem Cp.ge {a b : Int} : Cp F σ .GtE (.int a) (.int b) (decide (b ≤ a)) := fun s v₁ v₂ _ r1 r2 => by
  obtain ⟨t, rfl⟩ := RdC.toInt r1; obtain ⟨u, rfl⟩ := RdC.toInt r2
  exact PyProof.Rows.ge_int post_bool

theorem ev2CC {l r : Expr} {d₁ d₂ : Dt} {t : Value → Value → Sem Value} {Q : Value → Shared → Prop} (h1 : ExC F σ l d₁) (h2 : ExC F σ r d₂) (S : St F σ s)
    (k : ∀ v₁ v₂ s', Kp s s' → St F σ s' → RdC F.prog F.w σ.X s'.heap d₁ v₁ → RdC F.prog F.w σ.X s'.heap d₂ v₂ → wpAny (model F.prog F.w) F.A (t v₁ v₂) Q NoE s') :
    wpAny (model F.prog F.w) F.A (eval l F.env) (fun a s₁ => wpAny (model F.prog F.w) F.A (eval r F.env) (fun b s₂ => wpAny (model F.prog F.w) F.A (t a b) Q NoE s₂) NoE s₁) NoE s :=
  wpAny_mono (h1 s S) (fun a s₁ ⟨k1, r1⟩ => wpAny_mono (h2 s₁ (S.keeps k1)) (fun b s₂ ⟨k2, r2⟩ => k a b s₂ (k1.trans k2) ((S.keeps k1).keeps k2) (r1.keep k2.k) r2) fun _ _ e => e) fun _ _ e => e

theorem Ex.cmp {l r : Expr} {op : CmpOp} {d₁ d₂ : Dt} {b : Bool} {pos : Pos} (h1 : ExC F σ l d₁) (h2 : ExC F σ r d₂) (hc : Cp F σ op d₁ d₂ b) (hm : behindInMarks op r = false) : Ex F σ (.Compare l [op] [r] pos) (.bool b) := fun s S =>
  wpAny_Compare1 (ev2CC h1 h2 S fun v₁ v₂ s' k S' r1 r2 => wpAny_mono (hc s' v₁ v₂ S' r1 r2) (fun _ _ q => post_of k q) fun _ _ e => e) hm
theorem Tx.cmp {l r : Expr} {op : CmpOp} {d₁ d₂ : Dt} {b : Bool} {pos : Pos} (h1 : ExC F σ l d₁) (h2 : ExC F σ r d₂) (hc : Cp F σ op d₁ d₂ b) (hm : behindInMarks op r = false) : Tx F σ (.Compare l [op] [r] pos) b := fun s S =>
  wpAny_isTrue_Compare1 (wpAny_mono (h1 s S) (fun a s₁ ⟨k1, r1⟩ => wpAny_mono (h2 s₁ (S.keeps k1)) (fun v s₂ ⟨k2, r2⟩ =>
    wpAny_mono (hc s₂ a v ((S.keeps k1).keeps k2) (r1.keep k2.k) r2) (fun c s₃ ⟨k3, r3⟩ => by
      obtain rfl := r3.toBool
      exact wpAny_truthy_bool ⟨(k1.trans k2).trans k3, rfl⟩) fun _ _ e => e) fun _ _ e => e) fun _ _ e => e) hm
theorem Tx.and_nil {pos : Pos} : Tx F σ (.BoolOp .And [] pos) true := fun s _ => isTrue_and_nil ⟨Kp.refl s, rfl⟩
theorem Tx.or_nil {pos : Pos} : Tx F σ (.BoolOp .Or [] pos) false := fun s _ => isTrue_or_nil ⟨Kp.refl s, rfl⟩
theorem Tx.and_tt {x : Expr} {rest : List Expr} {b : Bool} {pos : Pos} (h1 : Tx F σ x true) (h2 : Tx F σ (.BoolOp .And rest pos) b) : Tx F σ (.BoolOp .And (x :: rest) pos) b := fun s S =>
  isTrue_and (wpAny_mono (h1 s S) (fun c s₁ ⟨k1, e⟩ => by subst e; exact wpAny_mono (h2 s₁ (S.keeps k1)) (fun _ _ q => ⟨k1.trans q.1, q.2⟩) fun _ _ e => e) fun _ _ e => e)
theorem Tx.and_ff {x : Expr} {rest : List Expr} {pos : Pos} (h1 : Tx F σ x false) : Tx F σ (.BoolOp .And (x :: rest) pos) false := fun s S =>
  isTrue_and (wpAny_mono (h1 s S) (fun c s₁ ⟨k1, e⟩ => by subst e; exact ⟨k1, rfl⟩) fun _ _ e => e)
theorem Tx.or_tt {x : Expr} {rest : List Expr} {pos : Pos} (h1 : Tx F σ x true) : Tx F σ (.BoolOp .Or (x :: rest) pos) true := fun s S =>
  isTrue_or (wpAny_mono (h1 s S) (fun c s₁ ⟨k1, e⟩ => by subst e; exact ⟨k1, rfl⟩) fun _ _ e => e)
theorem Tx.or_ff {x : Expr} {rest : List Expr} {b : Bool} {pos : Pos} (h1 : Tx F σ x false) (h2 : Tx F σ (.BoolOp .Or rest pos) b) : Tx F σ (.BoolOp .Or (x :: rest) pos) b := fun s S =>
  isTrue_or (wpAny_mono (h1 s S) (fun c s₁ ⟨k1, e⟩ => by subst e; exact wpAny_mono (h2 s₁ (S.keeps k1)) (fun _ _ q => ⟨k1.trans q.1, q.2⟩) fun _ _ e => e) fun _ _ e => e)

theorem Ex.ifTrue {t b o : Expr} {d : Dt} {pos : Pos} (ht : Tx F σ t true) (h : Ex F σ b d) : Ex F σ (.IfExp t b o pos) d := fun s S =>
  IfExp_ (wpAny_mono (ht s S) (fun c s₁ ⟨k1, e⟩ => by subst e; exact wpAny_mono (h s₁ (S.keeps k1)) (fun _ _ q => post_of k1 q) fun _ _ e => e) fun _ _ e => e)
theorem Ex.ifFalse {t b o : Expr} {d : Dt} {pos : Pos} (ht : Tx F σ t false) (h : Ex F σ o d) : Ex F σ (.IfExp t b o pos) d := fun s S =>
  IfExp_ (wpAny_mono (ht s S) (fun c s₁ ⟨k1, e⟩ => by subst e; exact wpAny_mono (h s₁ (S.keeps k1)) (fun _ _ q => post_of k1 q) fun _ _ e => e) fun _ _ e => e)
theorem Ex.ifExp {t b o : Expr} {d₁ d₂ : Dt} {c : Bool} {pos : Pos} (ht : Tx F σ t c) (h1 : c = true → Ex F σ b d₁) (h2 : c = false → Ex F σ o d₂) : Ex F σ (.IfExp t b o pos) (if c then d₁ else d₂) := by
  cases c with
  | true => exact Ex.ifTrue ht (h1 rfl)
  | false => exact Ex.ifFalse ht (h2 rfl)

/-! ## lists of expressions -/
theorem ExL.nil : ExL F σ [] [] := fun s pos _ => spliced_nil ⟨Kp.refl s, by simp only [RdL]⟩
theorem ExL.cons {e : Expr} {es : List Expr} {d : Dt} {ds : List Dt} (h : Ex F σ e d) (hs : ExL F σ es ds) (he : ∀ env, starEach (e :: es) env = (false, eval e env) :: starEach es env := by intro _; rfl) : ExL F σ (e :: es) (d :: ds) := fun s pos S => by
  rw [he]
  show wpAny _ _ (spliced ((false, eval e F.env) :: backTo pos (starEach es F.env))) _ _ s
  refine spliced_cons (wpAny_mono (h s S) (fun v s₁ ⟨k1, r1⟩ => wpAny_mono (hs s₁ pos (S.keeps k1)) (fun vs s₂ ⟨k2, r2⟩ => ⟨k1.trans k2, ?_⟩) fun _ _ e => e) fun _ _ e => e)
  simp only [RdL]
  exact ⟨v, vs, rfl, r1.keep k2.k, r2⟩
theorem RdL.length {prog : Program} {w : World} {X : Addr → Prop} {h : Heap} : ∀ {l : List Dt} {vs : List Value}, RdL prog w X h l vs → vs.length = l.length
  | [], vs, x => by simp only [RdL] at x; rw [x]; rfl
  | d :: ds, vs, x => by
    simp only [RdL] at x
    obtain ⟨v, r, rfl, _, h2⟩ := x
    rw [List.length_cons, List.length_cons, RdL.length h2]
theorem RdL.get {prog : Program} {w : World} {X : Addr → Prop} {h : Heap} : ∀ {l : List Dt} {vs : List Value} {i : Nat} {d : Dt}, RdL prog w X h l vs → l[i]? = some d → ∃ v, vs[i]? = some v ∧ Rd prog w X h d v
  | [], vs, i, d, x, e => by simp at e
  | d :: ds, vs, 0, d', x, e => by
    simp only [RdL] at x
    obtain ⟨v, r, rfl, h1, h2⟩ := x
    simp at e; subst e
    exact ⟨v, rfl, h1⟩
  | d :: ds, vs, i + 1, d', x, e => by
    simp only [RdL] at x
    obtain ⟨v, r, rfl, h1, h2⟩ := x
    simp at e
    obtain ⟨v', hv, hr⟩ := RdL.get h2 e
    exact ⟨v', by simpa using hv, hr⟩

theorem St.pushK {o : Obj} (_S : St F σ s) : Kp s { s with heap := s.heap.push o } := ⟨_, _, rfl, fun _ _ e => Heap.get?_push_of_some _ e⟩

theorem St.notX (S : St F σ s) : ¬ σ.X s.heap.objs.size := fun h => let ⟨_, e⟩ := S.xin _ h; Nat.lt_irrefl _ (Heap.lt_size e)

theorem Ex.tpl {es : List Expr} {ds : List Dt} {k : Nat} {pos : Pos} (h : ExL F σ es ds) (hsz : ds.length ≤ 1000) : Ex F σ (.Tuple es k pos) (.tup ds) := fun s S => by
  refine Tuple_ (wpAny_mono (h s pos S) (fun vs s₁ ⟨k1, r1⟩ => ?_) fun _ _ e => e)
  refine wpAny_newObj_type ?_ (by show vs.toArray.size ≤ sizeLine; rw [List.size_toArray, r1.length]; exact Nat.le_trans hsz (by decide))
  refine ⟨k1.trans (St.pushK (S.keeps k1)), Rd.tup (IsTup.new _ vs.toArray) ?_⟩
  exact r1.keep (St.pushK (S.keeps k1)).k
theorem Ex.lst {es : List Expr} {ds : List Dt} {pos : Pos} (h : ExL F σ es ds) (hsz : ds.length ≤ 1000) : Ex F σ (.List es pos) (.list ds) := fun s S => by
  refine List_ (wpAny_mono (h s pos S) (fun vs s₁ ⟨k1, r1⟩ => ?_) fun _ _ e => e)
  refine wpAny_newObj_type ?_ (by show vs.toArray.size ≤ sizeLine; rw [List.size_toArray, r1.length]; exact Nat.le_trans hsz (by decide))
  refine ⟨k1.trans (St.pushK (S.keeps k1)), Rd.list (S.keeps k1).notX ⟨_, Heap.get?_push_size _ rfl, rfl, _, rfl⟩ ?_⟩
  exact r1.keep (St.pushK (S.keeps k1)).k

end
end Mine
end

section
open PySem PySem.W PyProof.Rows PySem.Calls
set_option autoImplicit false
set_option maxRecDepth 100000
namespace Mine

section
variable {F : Fx} {σ : Ix} {s : Shared}

theorem tailB {prog : Program} {w : World} {A : Around} {E : Value → Shared → Prop} {s : Shared} {value slice : Expr} {o i : Value} {T id : String} {Q : Value → Shared → Prop} (hT : s.TypeIs o T)
    (hl : typeLookup (.type T) "__getitem__" = pure (some (.builtin id))) (h : wpAny (model prog w) A (getItem o i) Q E s)
    (hs : ∃ l, subscripted slice false o i = operate l (getItem o i)) : wpAny (model prog w) A (subscriptTail value slice o i) Q E s := by
  obtain ⟨l, hs⟩ := hs
  unfold subscriptTail
  refine wpAny_bind ?_
  rw [getitemInPython_of_ne hT.not_modules]
  refine wpAny_bind (wpAny_specialOf hT hl ?_)
  have fin : wpAny (model prog w) A (subscripted slice false o i) (fun r s₃ => wpAny (model prog w) A (letTemporaryGo value o r >>= fun _ => pure r) Q E s₃) E s := by
    rw [hs]
    exact wpAny_operate' (wpAny_mono h (fun r s₃ h₃ => wpAny_bind (wpAny_letTemporaryGo (wpAny_pure h₃))) fun _ _ x => x)
  first
    | exact wpAny_pure (wpAny_bind fin)
    | exact wpAny_bind (wpAny_pure (wpAny_bind fin))
    | exact wpAny_bind fin

/-- a subscript that is no slice -/
noncomputable abbrev NoSl (slice : Expr) : Prop := ∀ o i, subscripted slice false o i = operate [o, i] (getItem o i)

theorem Ex.itemT {b i : Expr} {l : List Dt} {k : Int} {d : Dt} {pos : Pos} (hb : Ex F σ b (.tup l)) (hi : Ex F σ i (.int k)) (h0 : 0 ≤ k) (hd : l[k.toNat]? = some d) (hk : k < 2 ^ 62) (hs : NoSl i) :
    Ex F σ (.Subscript b i pos) d := fun s S =>
  Subscript_ (ev2 hb hi S fun v₁ v₂ s' kp S' r1 r2 => by
    obtain ⟨a, items, rfl, ht, hl⟩ := r1.toTup
    obtain ⟨t, rfl⟩ := r2.toInt
    obtain ⟨v, hv, hr⟩ := RdL.get hl hd
    have hlt : k.toNat < items.size := by
      have := (List.getElem?_eq_some_iff.mp hv).1
      simpa using this
    refine tailB ht.typeIs slot_tuple_getitem.lookup (getItem_tuple ht (by omega) (by omega) (j := k.toNat) ?_ (by simpa using hv) ⟨kp, hr⟩) ⟨_, hs _ _⟩
    have hn : ¬ k < 0 := by omega
    simp only [seqIndex?, hn, if_false]
    rw [if_pos (by simp; omega)])
theorem Ex.itemL {b i : Expr} {l : List Dt} {k : Int} {d : Dt} {pos : Pos} (hb : ExC F σ b (.list l)) (hi : Ex F σ i (.int k)) (h0 : 0 ≤ k) (hd : l[k.toNat]? = some d) (hk : k < 2 ^ 62) (hs : NoSl i) :
    Ex F σ (.Subscript b i pos) d := fun s S =>
  Subscript_ (ev2C hb hi S fun v₁ v₂ s' kp S' r1 r2 => by
    obtain ⟨a, items, rfl, ht, hl⟩ := r1
    obtain ⟨t, rfl⟩ := r2.toInt
    obtain ⟨v, hv, hr⟩ := RdL.get hl hd
    exact tailB ht.typeIs slot_list_getitem.lookup (wpAny_getItem_list ht h0 (by omega) (by simpa using hv) ⟨kp, hr⟩) ⟨_, hs _ _⟩)

/-! ## dicts -/
theorem RdD.keys {prog : Program} {w : World} {X : Addr → Prop} {h : Heap} : ∀ {l : List (List Int × Dt)} {xs : List (List Int × Addr × Value)}, RdD prog w X h l xs → xs.map (·.1) = l.map (·.1)
  | [], xs, x => by simp only [RdD] at x; rw [x]; rfl
  | e :: es, xs, x => by
    simp only [RdD] at x
    obtain ⟨a, v, r, rfl, h1, h2⟩ := x
    rw [List.map_cons, List.map_cons, RdD.keys h2]
theorem RdD.length {prog : Program} {w : World} {X : Addr → Prop} {h : Heap} {l : List (List Int × Dt)} {xs : List (List Int × Addr × Value)} (x : RdD prog w X h l xs) : xs.length = l.length := by
  have := congrArg List.length x.keys; simpa using this
theorem RdD.find {prog : Program} {w : World} {X : Addr → Prop} {h : Heap} : ∀ {l : List (List Int × Dt)} {xs : List (List Int × Addr × Value)} {k : List Int}, RdD prog w X h l xs →
    match l.lookup k with
    | some d => ∃ p, atKey xs k = some p ∧ Rd prog w X h d p.2
    | none => atKey xs k = none
  | [], xs, k, x => by simp only [RdD] at x; rw [x]; rfl
  | e :: es, xs, k, x => by
    simp only [RdD] at x
    obtain ⟨a, v, r, rfl, h1, h2⟩ := x
    obtain ⟨k', d⟩ := e
    have ih := RdD.find (k := k) h2
    by_cases hk : k = k'
    · subst hk
      rw [List.lookup_cons, beq_self_eq_true]
      exact ⟨(a, v), by simp [atKey], h1⟩
    · rw [List.lookup_cons, beq_false_of_ne hk]
      have e1 : atKey ((k', a, v) :: r) k = atKey r k := by
        unfold atKey
        rw [List.find?_cons, decide_eq_false (fun q => hk q.symm)]
      simp only [e1]; exact ih

noncomputable def keyD (ks : List Int) : Dt := .tup (ks.map .int)
theorem RdL.isKey {prog : Program} {w : World} {X : Addr → Prop} {h : Heap} : ∀ {ks : List Int} {vs : List Value}, RdL prog w X h (ks.map .int) vs → PySem.ItemsAre (intKind prog w) ks vs
  | [], vs, x => by simp only [List.map_nil, RdL] at x; rw [x]; exact .nil
  | k :: ks, vs, x => by
    simp only [List.map_cons, RdL] at x
    obtain ⟨v, r, rfl, h1, h2⟩ := x
    obtain ⟨t, rfl⟩ := Rd.toInt h1
    exact .cons (by simp [intKind, Value.isInt]) (RdL.isKey h2)
theorem Rd.isKey {prog : Program} {w : World} {X : Addr → Prop} {h : Heap} {ks : List Int} {v : Value} (x : Rd prog w X h (keyD ks) v) : ∃ a, v = .ref a ∧ (tupleKind (intKind prog w)).is h ks a := by
  obtain ⟨a, items, rfl, ⟨o, ho, hc, n, hd⟩, hl⟩ := Rd.toTup x
  exact ⟨a, rfl, o, items, n, ho, hc, hd, hl.isKey⟩

theorem Room.u {k : Nat} {A : Around} (h : Room k A) : (tupleKind (intKind F.prog F.w)).room A.in1 := by
  show A.units + 1 < cLine
  have := h.2.2; omega

theorem Ex.itemD {b i : Expr} {l : List (List Int × Dt)} {k : List Int} {d : Dt} {pos : Pos} (hb : ExC F σ b (.dict l)) (hi : Ex F σ i (keyD k)) (hd : l.lookup k = some d) (hr : Room 0 F.A) (hs : NoSl i) :
    Ex F σ (.Subscript b i pos) d := fun s S =>
  Subscript_ (ev2C hb hi S fun v₁ v₂ s' kp S' r1 r2 => by
    obtain ⟨a, xs, rfl, h2, ht, hl⟩ := r1
    obtain ⟨c, rfl, hkey⟩ := r2.isKey
    have hf := RdD.find (k := k) hl
    rw [hd] at hf
    obtain ⟨p, hp, hrd⟩ := hf
    exact tailB ht.typeIs slot_dict_getitem.lookup (wpAny_getItem_heap hr.u hkey ht hp ⟨kp.trans (Kp.tok _ _), hrd⟩) ⟨_, hs _ _⟩)
theorem Cp.inD {l : List (List Int × Dt)} {k : List Int} (hr : Room 0 F.A) : Cp F σ .In (keyD k) (.dict l) (l.lookup k).isSome := fun s v₁ v₂ S r1 r2 => by
  obtain ⟨a, xs, rfl, h2, ht, hl⟩ := r2
  obtain ⟨c, rfl, hkey⟩ := Rd.isKey (show Rd F.prog F.w σ.X s.heap (keyD k) v₁ from r1)
  have hf := RdD.find (k := k) hl
  refine wpAny_in_heap hr.u hkey (beq_false_of_ne fun e => by subst e; exact absurd h2 (by decide)) ht ?_
  cases he : l.lookup k with
  | none => rw [he] at hf; rw [hf]; exact ⟨Kp.tok _ _, Rd.bool⟩
  | some d => rw [he] at hf; obtain ⟨p, hp, _⟩ := hf; rw [hp]; exact ⟨Kp.tok _ _, Rd.bool⟩

/-! ## slices of lists -/
theorem RdL.take {prog : Program} {w : World} {X : Addr → Prop} {h : Heap} : ∀ {l : List Dt} {vs : List Value} (n : Nat), RdL prog w X h l vs → RdL prog w X h (l.take n) (vs.take n)
  | [], vs, n, x => by simp only [RdL] at x; rw [x]; simp [RdL]
  | d :: ds, vs, 0, x => by simp [RdL]
  | d :: ds, vs, n + 1, x => by
    simp only [RdL] at x
    obtain ⟨v, r, rfl, h1, h2⟩ := x
    rw [List.take_succ_cons, List.take_succ_cons]
    simp only [RdL]
    exact ⟨v, _, rfl, h1, RdL.take n h2⟩
theorem RdL.drop {prog : Program} {w : World} {X : Addr → Prop} {h : Heap} : ∀ {l : List Dt} {vs : List Value} (n : Nat), RdL prog w X h l vs → RdL prog w X h (l.drop n) (vs.drop n)
  | [], vs, n, x => by simp only [RdL] at x; rw [x]; simp [RdL]
  | d :: ds, vs, 0, x => by simpa using x
  | d :: ds, vs, n + 1, x => by
    simp only [RdL] at x
    obtain ⟨v, r, rfl, h1, h2⟩ := x
    rw [List.drop_succ_cons, List.drop_succ_cons]
    exact RdL.drop n h2

theorem Ex.sliceTo {b e : Expr} {l : List Dt} {k : Nat} {p pos : Pos} (hb : ExC F σ b (.list l)) (he : Ex F σ e (.int k)) (hsz : l.length ≤ sizeLine) :
    Ex F σ (.Subscript b (.Slice Option.none (some e) Option.none p) pos) (.list (l.take k)) := fun s S =>
  Subscript_ (wpAny_mono (hb s S) (fun a s₁ ⟨k1, r1⟩ => by
    refine wpAny_Slice (wpAny_evalPart_none (wpAny_evalPart_some (wpAny_mono (he s₁ (S.keeps k1)) (fun u s₂ ⟨k2, r2⟩ => wpAny_evalPart_none ?_) fun _ _ e => e)))
    obtain ⟨c, items, rfl, hl, hr⟩ := r1.keep k2.k
    obtain ⟨t, rfl⟩ := r2.toInt
    have S₂ := (S.keeps k1).keeps k2
    have kp := St.pushK (o := { cls := .type "slice", data := .fields #[.none, .int (k : Int) t, .none] }) S₂
    have S₃ := S₂.keeps kp
    have hsz' : items.size ≤ sizeLine := by have := hr.length; simp at this; omega
    refine tailB (Heap.IsList.typeIs (s := { s₂ with heap := s₂.heap.push _ }) (hl.push _)) slot_list_getitem.lookup
      (wpAny_getItem_list_slice (hl.push _) (Heap.IsSliceOf.new ..) .none (.int _ t) .none (by simp) ?_ hsz') ⟨_, rfl⟩
    have kq := St.pushK (o := { cls := .type "list", data := .seq (slicePick items none (some (k : Int)) none) }) S₃
    refine ⟨((k1.trans k2).trans kp).trans kq, Rd.list S₃.notX ⟨_, Heap.get?_push_size _ rfl, rfl, _, rfl⟩ ?_⟩
    have r4 : RdL F.prog F.w σ.X s₂.heap (l.take k) (slicePick items none (some (k : Int)) none).toList := by rw [slicePick_upto']; exact hr.take k
    exact (r4.keep kp.k).keep kq.k) fun _ _ e => e)
theorem Ex.sliceFrom {b e : Expr} {l : List Dt} {k : Nat} {p pos : Pos} (hb : ExC F σ b (.list l)) (he : Ex F σ e (.int k)) (hsz : l.length ≤ sizeLine) :
    Ex F σ (.Subscript b (.Slice (some e) Option.none Option.none p) pos) (.list (l.drop k)) := fun s S =>
  Subscript_ (wpAny_mono (hb s S) (fun a s₁ ⟨k1, r1⟩ => by
    refine wpAny_Slice (wpAny_evalPart_some (wpAny_mono (he s₁ (S.keeps k1)) (fun u s₂ ⟨k2, r2⟩ => wpAny_evalPart_none (wpAny_evalPart_none ?_)) fun _ _ e => e))
    obtain ⟨c, items, rfl, hl, hr⟩ := r1.keep k2.k
    obtain ⟨t, rfl⟩ := r2.toInt
    have S₂ := (S.keeps k1).keeps k2
    have kp := St.pushK (o := { cls := .type "slice", data := .fields #[.int (k : Int) t, .none, .none] }) S₂
    have S₃ := S₂.keeps kp
    have hsz' : items.size ≤ sizeLine := by have := hr.length; simp at this; omega
    refine tailB (Heap.IsList.typeIs (s := { s₂ with heap := s₂.heap.push _ }) (hl.push _)) slot_list_getitem.lookup
      (wpAny_getItem_list_slice (hl.push _) (Heap.IsSliceOf.new ..) (.int _ t) .none .none (by simp) ?_ hsz') ⟨_, rfl⟩
    have kq := St.pushK (o := { cls := .type "list", data := .seq (slicePick items (some (k : Int)) none none) }) S₃
    refine ⟨((k1.trans k2).trans kp).trans kq, Rd.list S₃.notX ⟨_, Heap.get?_push_size _ rfl, rfl, _, rfl⟩ ?_⟩
    have r4 : RdL F.prog F.w σ.X s₂.heap (l.drop k) (slicePick items (some (k : Int)) none none).toList := by rw [slicePick_from']; exact hr.drop k
    exact (r4.keep kp.k).keep kq.k) fun _ _ e => e)

/-! ## names of the top -/
theorem ldB {x : Str} {v : Value} {pos : Pos} {Q : Value → Shared → Prop} (S : St F σ s) (hk : F.env.kindOf x = some .globalImplicit) (hx : x ∈ bnames) (hb : bootBuiltins x = some v)
    (h : Q v s) (hd : (x == ("__debug__" : Str)) = false := by decide +kernel) (hn : x ≠ "__name__" := by decide +kernel) : wpAny (model F.prog F.w) F.A (eval (.Name x pos) F.env) Q NoE s :=
  Name_function_global S.kind hk (loadGlobal_builtin (by rw [S.globals]; exact S.sta.g.keeps S.base) (S.sta.free x hx) (by rw [S.builtins]; exact S.sta.b.keeps S.base) ((S.sta.builtins x hn).trans hb) h) hd
theorem ldG {x : Str} {v : Value} {pos : Pos} {Q : Value → Shared → Prop} (S : St F σ s) (hk : F.env.kindOf x = some .globalImplicit) (hv : F.mg x = some v)
    (h : Q v s) (hd : (x == ("__debug__" : Str)) = false := by decide +kernel) : wpAny (model F.prog F.w) F.A (eval (.Name x pos) F.env) Q NoE s :=
  Name_function_global S.kind hk (loadGlobal_global (by rw [S.globals]; exact S.sta.g.keeps S.base) hv h) hd

theorem Ex.r0 {pos : Pos} (hk : F.env.kindOf "R0" = some .globalImplicit) : Ex F σ (.Name "R0" pos) (.tup [.int 0, .int 1]) := fun s S => by
  obtain ⟨a, t, u, hm, ht⟩ := S.sta.r0
  refine ldG S hk hm ⟨Kp.refl s, Rd.tup (ht.keeps S.base) ?_⟩
  simp only [RdL]
  exact ⟨_, _, rfl, Rd.int, _, _, rfl, Rd.int, rfl⟩
theorem Ex.r1 {pos : Pos} (hk : F.env.kindOf "R1" = some .globalImplicit) : Ex F σ (.Name "R1" pos) (.tup [.int 1, .int 1]) := fun s S => by
  obtain ⟨a, t, u, hm, ht⟩ := S.sta.r1
  refine ldG S hk hm ⟨Kp.refl s, Rd.tup (ht.keeps S.base) ?_⟩
  simp only [RdL]
  exact ⟨_, _, rfl, Rd.int, _, _, rfl, Rd.int, rfl⟩

/-- a built-in called on data -/
noncomputable def Cb (F : Fx) (σ : Ix) (f : Value) (ds : List Dt) (d : Dt) : Prop :=
  ∀ s vs, St F σ s → RdL F.prog F.w σ.X s.heap ds vs → wpAny (model F.prog F.w) F.A (call f vs) (Post F σ d s) NoE s

theorem Ex.callB {x : Str} {T id : String} {f : Value} {e : Expr} {es : List Expr} {ds : List Dt} {d : Dt} {p pos : Pos} (hx : x ∈ bnames) (hf : f = .type T ∨ f = .builtin id) (hb : bootBuiltins x = some f)
    (hk : F.env.kindOf x = some .globalImplicit) (ha : ExL F σ (e :: es) ds) (hc : Cb F σ f ds d) (he : ∀ env, starEach (e :: es) env = (false, eval e env) :: starEach es env := by intro _; rfl)
    (hpl : ∀ env, (backTo pos (starEach es env)).any (·.1) = false := by intro _; rfl)
    (hd : (x == ("__debug__" : Str)) = false := by decide +kernel) (hn : x ≠ "__name__" := by decide +kernel) : Ex F σ (.Call (.Name x p) (e :: es) [] pos) d := fun s S => by
  have main : wpAny (model F.prog F.w) F.A (evalArgs f true (backTo pos (starEach (e :: es) F.env)) []) (fun a s₁ => wpAny (model F.prog F.w) F.A (call f ([] ++ a.pos) a.kw) (Post F σ d s) NoE s₁) NoE s := by
    have h0 := ha s pos S
    rw [he] at h0 ⊢
    exact evalArgs_plain (wpAny_mono h0 (fun vs s₁ ⟨k1, r1⟩ => wpAny_mono (hc s₁ vs (S.keeps k1) r1) (fun _ _ q => post_of k1 q) fun _ _ e => e) fun _ _ e => e)
  have hany : (backTo pos (starEach (e :: es) F.env)).any (·.1) = false := by
    rw [he]; show (false || _) = false; rw [Bool.false_or]; exact hpl F.env
  refine wpAny_Call_ofName (ldB S hk hx hb ?_ hd hn)
  rcases hf with rfl | rfl
  · exact PySem.callWith_type hany main
  · exact Calls.callWith_builtin hany main

theorem Cb.abs {i : Int} : Cb F σ (.builtin "abs") [.int i] (.int i.natAbs) := fun s vs S r => by
  simp only [RdL] at r
  obtain ⟨v, _, rfl, h1, rfl⟩ := r
  obtain ⟨t, rfl⟩ := h1.toInt
  refine call_abs_int fun u tk => ?_
  have e : (if i < 0 then -i else i) = (i.natAbs : Int) := by split <;> omega
  rw [e]
  exact ⟨Kp.tok _ _, Rd.int⟩
theorem Cb.max2 {a b : Int} (hr : F.A.handled = none) : Cb F σ (.builtin "max") [.int a, .int b] (.int (max a b)) := fun s vs S r => by
  simp only [RdL] at r
  obtain ⟨v, _, rfl, h1, u, _, rfl, h2, rfl⟩ := r
  obtain ⟨t, rfl⟩ := h1.toInt
  obtain ⟨t', rfl⟩ := h2.toInt
  refine max_two_ints hr fun h' tk hk => ⟨Kp.mk' hk, ?_⟩
  split
  · rw [show max a b = b by omega]; exact Rd.int
  · rw [show max a b = a by omega]; exact Rd.int
theorem Cb.int {i : Int} : Cb F σ (.type "int") [.int i] (.int i) := fun s vs S r => by
  simp only [RdL] at r
  obtain ⟨v, _, rfl, h1, rfl⟩ := r
  obtain ⟨t, rfl⟩ := h1.toInt
  exact call_int_int ⟨Kp.refl s, Rd.int⟩
theorem Cb.tuple {l : List Dt} (hsz : l.length ≤ sizeLine) : Cb F σ (.type "tuple") [.list l] (.tup l) := fun s vs S r => by
  simp only [RdL] at r
  obtain ⟨v, _, rfl, h1, rfl⟩ := r
  obtain ⟨a, items, rfl, _, hl, hr⟩ := h1.toList
  have hlen : items.size ≤ sizeLine := by have := hr.length; simp at this; omega
  refine call_tuple_list hl (fun h' hk => ?_) hlen
  have k1 : Keep s.heap (h'.push { cls := .type "tuple", data := .seq items }) := fun b o e => Heap.get?_push_of_some _ (hk b o e)
  exact ⟨Kp.mk' k1, Rd.tup (IsTup.new _ items) (hr.keep k1)⟩
theorem Cb.len {l : List Dt} (hsz : l.length ≤ sizeLine) : Cb F σ (.builtin "len") [.list l] (.int l.length) := fun s vs S r => by
  simp only [RdL] at r
  obtain ⟨v, _, rfl, h1, rfl⟩ := r
  obtain ⟨a, items, rfl, _, hl, hr⟩ := h1.toList
  have hlen : items.size = l.length := by have := hr.length; simpa using this
  have hs : sizeLine = 16777216 := by decide
  refine Calls.call_len_list hl (by omega) ?_
  rw [hlen]
  exact ⟨Kp.tok _ _, Rd.int⟩
theorem Cb.list {l : List Dt} (hsz : l.length ≤ sizeLine) : Cb F σ (.type "list") [.list l] (.list l) := fun s vs S r => by
  simp only [RdL] at r
  obtain ⟨v, _, rfl, h1, rfl⟩ := r
  obtain ⟨a, items, rfl, _, ⟨o, ho, hc, n, hd⟩, hr⟩ := h1.toList
  have hlen : items.size ≤ sizeLine := by have := hr.length; simp at this; omega
  exact call_list_seq (hsz := hlen) a (.inl rfl) ho hc hd fun h' c' hk hD => ⟨Kp.mk' hk, Rd.list S.notX ⟨_, hD, rfl, c', rfl⟩ (hr.keep hk)⟩

end
end Mine
end

section
open PySem PySem.W PyProof.Rows PySem.Calls
set_option autoImplicit false
set_option maxRecDepth 100000
namespace Mine

/-- the names of a scope say what the frame's names are -/
structure KOf (env : Env) (names : List (Str × NameKind)) : Prop where
  g : ∀ x, names.lookup x = some .globalImplicit → env.kindOf x = some .globalImplicit
structure KOfF (env : Env) (names : List (Str × NameKind)) : Prop where
  k : ∀ x, env.kindOf x = names.lookup x
  c : ∀ x, names.lookup x = some .cell → (env.cells.lookup x).isSome = true
  f : env.scope.kind = .function

/-- a def of the text, called on data, gives a datum and changes nothing -/
noncomputable def Fn (prog : Program) (w : World) (k i : Nat) (ds : List Dt) (d : Dt) : Prop :=
  ∀ (base : Heap) (mg mb : Str → Option Value) (a : Addr) (A : Around) (s : Shared) (X : Addr → Prop) (vs : List Value), Sta base mg mb → mg (dfAt i).name = some (.ref a) → Keep base s.heap → Room k A →
    (∀ c, X c → ∃ o, s.heap.get? c = some o) → RdL prog w X s.heap ds vs →
    wpAny (model prog w) A (call (.ref a) vs) (fun v s' => Kp s s' ∧ Rd prog w X s'.heap d v) NoE s

noncomputable def RetK (F : Fx) (d : Dt) (fl : Flow) (s' : Shared) : Prop :=
  ∃ v, fl = .ret v ∧ (∃ h tk, s' = { F.s₀ with heap := h, toks := tk }) ∧ (∀ b o, ¬ F.W b → F.s₀.heap.get? b = some o → s'.heap.get? b = some o) ∧ Rd F.prog F.w F.Xc s'.heap d v

noncomputable abbrev NoF : Flow → Shared → Prop := fun _ _ => False

structure FnCtx (i k : Nat) (F : Fx) : Prop where
  room : Room k F.A
  names : KOfF F.env (dfAt i).scope.names
  kof : KOf F.env (dfAt i).scope.names
  pure : ∀ b, ¬ F.W b

section
variable {prog : Program} {w : World}

theorem lookup_zip_some {xs : List Str} {vs : List Value} {x : Str} {v : Value} : (xs.zip vs).lookup x = some v → (x, v) ∈ xs.zip vs := mem_of_lookup

theorem bindL_other (k : Str → Option NameKind) : ∀ (b : List (Str × Value)) (m : Str → Option Value) (x : Str), (∀ p ∈ b, p.1 ≠ x) → bindL k b m x = m x
  | [], m, x, _ => rfl
  | (n, v) :: r, m, x, h => by
    rw [bindL, bindL_other k r _ x fun p hp => h p (List.mem_cons_of_mem _ hp)]
    have hn : n ≠ x := h (n, v) List.mem_cons_self
    split
    · exact if_neg (Ne.symm hn)
    · rfl
theorem bindC_other (k : Str → Option NameKind) : ∀ (b : List (Str × Value)) (m : Str → Option Value) (x : Str), (∀ p ∈ b, p.1 ≠ x) → bindC k b m x = m x
  | [], m, x, _ => rfl
  | (n, v) :: r, m, x, h => by
    rw [bindC, bindC_other k r _ x fun p hp => h p (List.mem_cons_of_mem _ hp)]
    have hn : n ≠ x := h (n, v) List.mem_cons_self
    split
    · rfl
    · exact if_neg (Ne.symm hn)
theorem bindL_at (k : Str → Option NameKind) : ∀ (b : List (Str × Value)) (m : Str → Option Value) (x : Str) (v : Value), (b.map (·.1)).Nodup → (x, v) ∈ b → k x = some .local → bindL k b m x = some v
  | (n, u) :: r, m, x, v, hn, hm, hk => by
    rw [List.map_cons, List.nodup_cons] at hn
    rcases List.mem_cons.mp hm with e | hm
    · cases e
      rw [bindL, if_pos hk, bindL_other]
      · exact if_pos rfl
      · intro p hp e
        exact hn.1 (List.mem_map.mpr ⟨p, hp, e⟩)
    · rw [bindL]; exact bindL_at k r _ x v hn.2 hm hk
theorem bindC_at (k : Str → Option NameKind) : ∀ (b : List (Str × Value)) (m : Str → Option Value) (x : Str) (v : Value), (b.map (·.1)).Nodup → (x, v) ∈ b → k x ≠ some .local → bindC k b m x = some v
  | (n, u) :: r, m, x, v, hn, hm, hk => by
    rw [List.map_cons, List.nodup_cons] at hn
    rcases List.mem_cons.mp hm with e | hm
    · cases e
      rw [bindC, if_neg hk, bindC_other]
      · exact if_pos rfl
      · intro p hp e
        exact hn.1 (List.mem_map.mpr ⟨p, hp, e⟩)
    · rw [bindC]; exact bindC_at k r _ x v hn.2 hm hk

/-- the names and data of the parameters, then the other names, bare -/
noncomputable def args0 : List Str → List Dt → List Str → List (Str × Option Dt)
  | x :: xs, d :: ds, ys => (x, some d) :: args0 xs ds ys
  | _, _, ys => ys.map fun y => (y, none)
theorem args0_names : ∀ (xs : List Str) (ds : List Dt) (ys : List Str), xs.length = ds.length → (args0 xs ds ys).map (·.1) = xs ++ ys
  | [], [], ys, _ => by simp only [args0, List.map_map, List.nil_append]; exact List.map_id' ys
  | x :: xs, d :: ds, ys, h => by simp only [args0, List.map_cons, List.cons_append]; rw [args0_names xs ds ys (by simpa using h)]
  | [], _ :: _, _, h => by simp at h
  | _ :: _, [], _, h => by simp at h
theorem args0_val {X : Addr → Prop} {h : Heap} : ∀ (xs : List Str) (ds : List Dt) (ys : List Str) (vs : List Value) (x : Str) (d : Dt), RdL prog w X h ds vs → xs.length = ds.length → (x, some d) ∈ args0 xs ds ys →
    ∃ v, (x, v) ∈ xs.zip vs ∧ Rd prog w X h d v
  | [], [], ys, vs, x, d, _, _, hm => by simp [args0] at hm
  | y :: xs, e :: ds, ys, vs, x, d, hr, hl, hm => by
    simp only [RdL] at hr
    obtain ⟨v, r, rfl, h1, h2⟩ := hr
    simp only [args0] at hm
    rcases List.mem_cons.mp hm with q | hm
    · cases q
      exact ⟨v, List.mem_cons_self, h1⟩
    · obtain ⟨u, hu, ru⟩ := args0_val xs ds ys r x d h2 (by simpa using hl) hm
      exact ⟨u, List.mem_cons_of_mem _ hu, ru⟩
  | [], _ :: _, _, _, _, _, _, h, _ => by simp at h
  | _ :: _, [], _, _, _, _, _, h, _ => by simp at h

theorem cellsFrom_mem : ∀ (names : List (Str × NameKind)) (n : Nat) (acc : List (Str × Addr)) (p : Str × Addr), p ∈ cellsFrom n names acc → p ∈ acc ∨ (p.1 ∈ names.map (·.1) ∧ n ≤ p.2)
  | [], n, acc, p, h => .inl h
  | (y, k) :: r, n, acc, p, h => by
    unfold cellsFrom at h
    split at h
    · rcases cellsFrom_mem r (n + 1) _ p h with q | q
      · rcases List.mem_cons.mp q with q | q
        · subst q; exact .inr ⟨List.mem_cons_self, Nat.le_refl _⟩
        · exact .inl q
      · exact .inr ⟨List.mem_cons_of_mem _ q.1, Nat.le_of_succ_le q.2⟩
    · rcases cellsFrom_mem r n _ p h with q | q
      · exact .inl q
      · exact .inr ⟨List.mem_cons_of_mem _ q.1, q.2⟩

/-- where the frame of a call stands: what the call's own making has put on -/
theorem Fn.of_body {k i : Nat} {xs ys : List Str} {ds : List Dt} {d : Dt} (hlen : xs.length = ds.length)
    (hbind : ∀ (pm code doc : Value) (vs : List Value), vs.length = xs.length → bindArgs (docDef (dfAt i).name (dfAt i).params (dfAt i).body (dfAt i).scope pm code doc) ⟨vs, []⟩ = pure (xs.zip vs))
    (hi : i ∈ defIdx)
    (hloc : (xs.all fun x => (dfAt i).scope.names.lookup x == some .local || (dfAt i).scope.names.lookup x == some .cell) = true)
    (hdbg : (xs.all fun x => !(x == ("__debug__" : Str))) = true)
    (hnd : (xs ++ ys).Nodup)
    (hscope : ((dfAt i).scope.isCoroutine == false && (dfAt i).scope.isGenerator == false && (dfAt i).scope.kind == .function) = true)
    (hbody : ∀ (F : Fx) (X : Addr → Prop), F.prog = prog → F.w = w → FnCtx i k F → Sx F ⟨X, args0 xs ds ys, []⟩ (dfAt i).body (RetK F d)) : Fn prog w (k + 1) i ds d := by
  intro base mg mb a A s X vs hsta hmg hbase hroom hX hr
  obtain ⟨a', o, pm, code, doc, hmg', ho, hdata, hcode⟩ := hsta.fn i hi
  rw [hmg] at hmg'; cases hmg'
  have hsc : (dfAt i).scope.isCoroutine = false ∧ (dfAt i).scope.isGenerator = false ∧ (dfAt i).scope.kind = .function := by
    simpa [Bool.and_eq_true, and_assoc] using hscope
  have hvl : vs.length = xs.length := by rw [hr.length, hlen]
  have hzip : (xs.zip vs).map (·.1) = xs := by
    rw [List.map_fst_zip]; omega
  have hnx : xs.Nodup := (List.nodup_append.mp hnd).1
  have hkind : ∀ p ∈ xs.zip vs, (dfAt i).scope.names.lookup p.1 = some .local ∨ ((dfAt i).scope.names.lookup p.1 = some .cell ∧ ((cellsFrom (s.heap.objs.size + 1) (dfAt i).scope.names []).lookup p.1).isSome = true) := by
    intro p hp
    have hm : p.1 ∈ xs := by rw [← hzip]; exact List.mem_map.mpr ⟨p, hp, rfl⟩
    have := List.all_eq_true.mp hloc p.1 hm
    simp only [Bool.or_eq_true, beq_iff_eq] at this
    rcases this with q | q
    · exact .inl q
    · exact .inr ⟨q, cellsFrom_some _ _ _ (.inl q)⟩
  have hbase' : s.heap.get? a = some o := hbase _ _ ho
  refine wpAny_call (call_cells_ret (by have := hroom.2.1; omega) hbase' hdata (hsta.nolimit.keeps hbase) (hcode.keeps hbase) (hbind pm code doc vs hvl) hkind (fun h₁ tk Fh Ch => ?_) hsc.1 hsc.2.1 hsc.2.2)
  have body := hbody ⟨prog, w, base, mg, mb, A.deeper (envOfC (dfAt i).name (dfAt i).scope s.heap.objs.size a code), envOfC (dfAt i).name (dfAt i).scope s.heap.objs.size a code, s, fun _ => False, X⟩
    (fun c => X c ∨ c = s.heap.objs.size ∨ ∃ x, (cellsFrom (s.heap.objs.size + 1) (dfAt i).scope.names []).lookup x = some c) rfl rfl
    ⟨hroom.deeper _, ⟨fun x => rfl, fun x hx => cellsFrom_some _ _ _ (.inl hx), hsc.2.2⟩, ⟨fun x hx => hx⟩, fun _ => id⟩
  have hcl : ∀ x c, (cellsFrom (s.heap.objs.size + 1) (dfAt i).scope.names []).lookup x = some c → s.heap.objs.size < c := fun x c e => Ch.above _ _ (mem_of_lookup e)
  refine wpAny_mono (body { s with heap := h₁, toks := tk } ?_) (fun fl s' hK => ?_) fun _ _ e => e
  · exact {
      sh := ⟨h₁, tk, rfl⟩
      keep := fun b o _ e => Fh.keep b o e
      sta := hsta
      base := fun b o e => Fh.keep b o (hbase b o e)
      basein := fun b o e => Heap.lt_size (hbase b o e)
      kind := hsc.2.2
      globals := rfl
      builtins := rfl
      loc := ⟨_, Fh.ns⟩
      locX := .inr (.inl rfl)
      locN := Nat.le_refl _
      cells := fun x c e => ⟨⟨_, Ch.cell x c e⟩, .inr (.inr ⟨x, e⟩), Nat.le_of_lt (hcl x c e), Nat.ne_of_gt (hcl x c e)⟩
      apart := fun x y c e e' => name_of_addr Ch.apart (mem_of_lookup e) (mem_of_lookup e')
      xin := fun c hc => by
        rcases hc with hc | rfl | ⟨x, e⟩
        · obtain ⟨o', ho'⟩ := hX c hc; exact ⟨o', Fh.keep _ _ ho'⟩
        · obtain ⟨o', _, _, e, _⟩ := Fh.ns; exact ⟨o', e⟩
        · obtain ⟨o', e, _⟩ := Ch.cell x c e; exact ⟨o', e⟩
      xc := fun c hc => .inl hc
      xclt := hX
      names := by rw [args0_names _ _ _ hlen]; exact hnd
      vals := fun x e hm => by
        obtain ⟨v, hv, rv⟩ := args0_val xs ds ys vs x e hr hlen hm
        have hx : x ∈ xs := by rw [← hzip]; exact List.mem_map.mpr ⟨(x, v), hv, rfl⟩
        have hdb : (x == ("__debug__" : Str)) = false := by simpa using List.all_eq_true.mp hdbg x hx
        refine ⟨v, ⟨hdb, ?_⟩, Rd.go (Keep.x Fh.keep).r ?_ _ _ rv⟩
        · rcases hkind _ hv with q | ⟨q, q2⟩
          · exact .inl ⟨q, _, Fh.ns, bindL_at _ _ _ x v (by rw [hzip]; exact hnx) hv q⟩
          · obtain ⟨c, hc⟩ := Option.isSome_iff_exists.mp q2
            refine .inr ⟨.inl q, c, hc, ?_⟩
            have := Ch.cell x c hc
            rwa [bindC_at _ _ _ x v (by rw [hzip]; exact hnx) hv (by show List.lookup x (dfAt i).scope.names ≠ _; rw [q]; simp)] at this
        · rintro b (hb | rfl | ⟨y, hy⟩)
          · exact .inl hb
          · refine .inr ?_
            cases e : s.heap.get? s.heap.objs.size with
            | none => rfl
            | some o' => exact absurd (Heap.lt_size e) (Nat.lt_irrefl _)
          · refine .inr ?_
            cases e : s.heap.get? b with
            | none => rfl
            | some o' => exact absurd (Heap.lt_size e) (Nat.not_lt.mpr (Nat.le_of_lt (hcl y b hy)))
      own := fun p hp => by cases hp }
  · obtain ⟨⟨v, rfl, ⟨h', tk', rfl⟩, hk, hrd⟩, _⟩ := hK
    exact ⟨⟨h', tk', rfl, fun b o e => hk b o id e⟩, hrd⟩

section
variable {F : Fx} {σ : Ix} {s : Shared}

theorem Ex.call {k i : Nat} {x : Str} {e : Expr} {es : List Expr} {ds : List Dt} {d : Dt} {p pos : Pos} (hf : Fn F.prog F.w k i ds d) (hr : Room k F.A) (hk : F.env.kindOf x = some .globalImplicit)
    (ha : ExL F σ (e :: es) ds) (hi : i ∈ defIdx) (hx : x = (dfAt i).name) (he : ∀ env, starEach (e :: es) env = (false, eval e env) :: starEach es env := by intro _; rfl)
    (hd : (x == ("__debug__" : Str)) = false := by decide +kernel) : Ex F σ (.Call (.Name x p) (e :: es) [] pos) d := fun s S => by
  obtain ⟨a, o, pm, code, doc, hm, ho, hdata, hcode⟩ := S.sta.fn i hi
  refine wpAny_Call_ofName (ldG S hk (by rw [hx]; exact hm) ?_ hd)
  refine callWith_function (o := o) (fd := docDef (dfAt i).name (dfAt i).params (dfAt i).body (dfAt i).scope pm code doc) ?_
  have h0 := ha s pos S
  rw [he] at h0 ⊢
  refine evalArgs_plain (wpAny_mono h0 (fun vs s₁ ⟨k1, r1⟩ => ⟨⟨(S.keeps k1).base _ _ ho, hdata⟩, ?_⟩) fun _ _ e => e)
  exact wpAny_mono (hf F.base F.mg F.mb a F.A s₁ σ.X vs S.sta hm (S.keeps k1).base hr (S.keeps k1).xin r1) (fun _ _ q => post_of k1 q) fun _ _ e => e

/-! ## statements -/
theorem Sx.ret {e : Expr} {d : Dt} {pos : Pos} {rest : List Stmt} (h : Ex F σ e d) : Sx F σ (.Return (some e) pos :: rest) (RetK F d) := fun s S => by
  refine wpAny_execs_cons (wpAny_Return_some (wpAny_mono (h s S) (fun v s₁ ⟨k1, r1⟩ => ?_) fun _ _ e => e))
  have S₁ := S.keeps k1
  exact ⟨⟨v, rfl, S₁.sh, S₁.keep, r1.sub fun a ha => .inl (S₁.xc a ha)⟩, k1.k.x⟩

/-- behind a block: it went on with σ', or it left -/
noncomputable def Nx (F : Fx) (σ' : Ix) (K : Flow → Shared → Prop) (f : Flow) (s' : Shared) : Prop := match f with
  | .next => St F σ' s'
  | f => K f s'
theorem Sx.nil {K : Flow → Shared → Prop} : Sx F σ [] (Nx F σ K) := fun s S => wpAny_execs_nil ⟨S, (Keep.refl _).x⟩
theorem Sx.nilK {K : Flow → Shared → Prop} (h : ∀ s, St F σ s → K .next s) : Sx F σ [] K := fun s S => wpAny_execs_nil ⟨h s S, (Keep.refl _).x⟩

theorem keepX_then {X Y : Addr → Prop} {h h₁ h₂ : Heap} (k : KeepX X h h₁) (k' : KeepX Y h₁ h₂) (hy : ∀ a, Y a → X a ∨ h.get? a = none) : KeepX X h h₂ := fun b o e q =>
  k' b o (k b o e q) (q.imp (fun hn hY => (hy b hY).elim hn fun z => by rw [z] at e; cases e) id)

theorem Sx.cons {σ' : Ix} {st : Stmt} {rest : List Stmt} {K : Flow → Shared → Prop} (h : Es F σ st σ') (hX : σ'.X = σ.X) (hr : Sx F σ' rest K) : Sx F σ (st :: rest) K := fun s S =>
  wpAny_execs_cons (wpAny_mono (h s S) (fun f s₁ ⟨e, S₁, k1⟩ => by
    subst e
    exact wpAny_mono (hr s₁ S₁) (fun f s₂ ⟨k, k2⟩ => ⟨k, keepX_then k1 k2 fun a ha => .inl (hX ▸ ha)⟩) fun _ _ e => e) fun _ _ e => e)

/-- a name can be stored: a local, or a cell of the frame's own -/
noncomputable def Own (env : Env) (x : Str) : Prop := (x == ("__debug__" : Str)) = false ∧ (env.kindOf x = some .local ∨ (env.kindOf x = some .cell ∧ (env.cells.lookup x).isSome = true))
theorem KOfF.own {env : Env} {names : List (Str × NameKind)} {x : Str} (h : KOfF env names) (hk : (!(x == ("__debug__" : Str)) && (names.lookup x == some .local || names.lookup x == some .cell)) = true) : Own env x := by
  simp only [Bool.and_eq_true, Bool.or_eq_true, beq_iff_eq, Bool.not_eq_true'] at hk
  refine ⟨hk.1, ?_⟩
  rcases hk.2 with q | q
  · exact .inl ((h.k x).trans q)
  · exact .inr ⟨(h.k x).trans q, h.c x q⟩

noncomputable abbrev NoΩ (σ : Ix) (x : Str) : Prop := ∀ p ∈ σ.Ω, p.1 ≠ x

theorem Es.assign {x : Str} {px pos : Pos} {e : Expr} {d : Dt} {Γ' : List (Str × Option Dt)} (ho : Own F.env x) (h : Ex F σ e d) (hset : SetAt x d σ.Γ Γ') (hΩ : NoΩ σ x)
    (hs : swapsWith e (some (.Name x px)) pos.line F.env = pure false) : Es F σ (.Assign [.Name x px] e pos) ⟨σ.X, Γ', σ.Ω⟩ := fun s S =>
  wpAny_Assign_Name (wpAny_mono (h s S) (fun _ s₁ ⟨k1, r1⟩ => wpAny_mono ((S.keeps k1).store ho.2 ho.1 r1 hset hΩ) (fun _ s₂ ⟨S₂, k2⟩ => ⟨rfl, S₂, k1.k.x.trans k2⟩) fun _ _ e => e) fun _ _ e => e) hs

theorem Sx.ifT {t : Expr} {b o : List Stmt} {pos : Pos} {rest : List Stmt} {Γ' : List (Str × Option Dt)} {Ω' : List (Str × Addr × Dt)} {K : Flow → Shared → Prop} (ht : Tx F σ t true)
    (hb : Sx F σ b (Nx F ⟨σ.X, Γ', Ω'⟩ K)) (hr : Sx F ⟨σ.X, Γ', Ω'⟩ rest K) : Sx F σ (.If t b o pos :: rest) K := fun s S =>
  wpAny_execs_cons (wpAny_If (wpAny_mono (ht s S) (fun c s₁ ⟨k1, e⟩ => by
    subst e
    rw [if_pos rfl]
    refine wpAny_mono (hb s₁ (S.keeps k1)) (fun f s₂ ⟨k, k2⟩ => ?_) fun _ _ e => e
    have k3 := k1.k.x.trans k2
    cases f with
    | next => exact wpAny_mono (hr s₂ k) (fun f s₃ ⟨q, k4⟩ => ⟨q, k3.trans k4⟩) fun _ _ e => e
    | brk => exact ⟨k, k3⟩
    | cont => exact ⟨k, k3⟩
    | ret v => exact ⟨k, k3⟩) fun _ _ e => e))
theorem Sx.ifF {t : Expr} {b o : List Stmt} {pos : Pos} {rest : List Stmt} {Γ' : List (Str × Option Dt)} {Ω' : List (Str × Addr × Dt)} {K : Flow → Shared → Prop} (ht : Tx F σ t false)
    (hb : Sx F σ o (Nx F ⟨σ.X, Γ', Ω'⟩ K)) (hr : Sx F ⟨σ.X, Γ', Ω'⟩ rest K) : Sx F σ (.If t b o pos :: rest) K := fun s S =>
  wpAny_execs_cons (wpAny_If (wpAny_mono (ht s S) (fun c s₁ ⟨k1, e⟩ => by
    subst e
    rw [if_neg Bool.false_ne_true]
    refine wpAny_mono (hb s₁ (S.keeps k1)) (fun f s₂ ⟨k, k2⟩ => ?_) fun _ _ e => e
    have k3 := k1.k.x.trans k2
    cases f with
    | next => exact wpAny_mono (hr s₂ k) (fun f s₃ ⟨q, k4⟩ => ⟨q, k3.trans k4⟩) fun _ _ e => e
    | brk => exact ⟨k, k3⟩
    | cont => exact ⟨k, k3⟩
    | ret v => exact ⟨k, k3⟩) fun _ _ e => e))
/-- an if whose arm leaves by a return -/
theorem Sx.ifRet {t e : Expr} {o rest : List Stmt} {d : Dt} {pos p : Pos} (ht : Tx F σ t true) (h : Ex F σ e d) : Sx F σ (.If t [.Return (some e) p] o pos :: rest) (RetK F d) := fun s S =>
  wpAny_execs_cons (wpAny_If (wpAny_mono (ht s S) (fun c s₁ ⟨k1, q⟩ => by
    subst q
    rw [if_pos rfl]
    refine wpAny_mono (Sx.ret h s₁ (S.keeps k1)) (fun f s₂ ⟨k, k2⟩ => ?_) fun _ _ e => e
    obtain ⟨v, rfl, r⟩ := k
    exact ⟨⟨v, rfl, r⟩, k1.k.x.trans k2⟩) fun _ _ e => e))
/-- an if as one statement that goes on -/
theorem Es.ifExec {t : Expr} {b o : List Stmt} {c : Bool} {pos : Pos} {Γ' : List (Str × Option Dt)} {Ω' : List (Str × Addr × Dt)} (ht : Tx F σ t c)
    (hb : c = true → Sx F σ b (Nx F ⟨σ.X, Γ', Ω'⟩ NoF)) (hr : c = false → Sx F σ o (Nx F ⟨σ.X, Γ', Ω'⟩ NoF)) : Es F σ (.If t b o pos) ⟨σ.X, Γ', Ω'⟩ := fun s S =>
  wpAny_If (wpAny_mono (ht s S) (fun c' s₁ ⟨k1, e⟩ => by
    subst e
    cases c' with
    | true =>
      rw [if_pos rfl]
      refine wpAny_mono (hb rfl s₁ (S.keeps k1)) (fun f s₂ ⟨k, k2⟩ => ?_) fun _ _ e => e
      cases f with
      | next => exact ⟨rfl, k, k1.k.x.trans k2⟩
      | brk => exact k.elim
      | cont => exact k.elim
      | ret v => exact k.elim
    | false =>
      rw [if_neg Bool.false_ne_true]
      refine wpAny_mono (hr rfl s₁ (S.keeps k1)) (fun f s₂ ⟨k, k2⟩ => ?_) fun _ _ e => e
      cases f with
      | next => exact ⟨rfl, k, k1.k.x.trans k2⟩
      | brk => exact k.elim
      | cont => exact k.elim
      | ret v => exact k.elim) fun _ _ e => e)

/-! ## two names at once -/
theorem swapped2 {env : Env} {x y : Str} {p q tp vp : Pos} {k k' : Nat} {vs : List Expr} (hx : env.kindOf x = some .local) (hy : env.kindOf y = some .local) (hf : env.scope.kind = .function)
    (hp : p.line = q.line) (hxy : (x == y) = false) (hv : vs.length = 2) (hst : (vs.any fun | .Starred .. => true | _ => false) = false) (hff : vs.all (foldedForSure 8) = false) (hcc : vs.all (constantsAlone 8) = false) :
    swappedStores [.Tuple [.Name x p, .Name y q] k tp] (.Tuple vs k' vp) env = pure (some [x, y]) := by
  have hb : env.blockKind = .function := by unfold Env.blockKind; rw [hf]; rfl
  have hne : x ≠ y := by simpa using hxy
  unfold swappedStores
  simp only [hb, hv, hff, hcc]
  simp [Expr.pos, hp, hx, hy, List.eraseDups_cons, Ne.symm hne]
  intro e he hs
  exact absurd hs (List.any_eq_false.mp hst e he)

theorem Es.assign2 {x y : Str} {p q tp vp pos : Pos} {k k' : Nat} {vs : List Expr} {d₁ d₂ : Dt} {Γ₁ Γ₂ : List (Str × Option Dt)} (hx : (x == ("__debug__" : Str)) = false ∧ F.env.kindOf x = some .local) (hy : (y == ("__debug__" : Str)) = false ∧ F.env.kindOf y = some .local) (hf : F.env.scope.kind = .function)
    (hr : F.A.handled = none) (h : Ex F σ (.Tuple vs k' vp) (.tup [d₁, d₂])) (h1 : SetAt y d₂ σ.Γ Γ₁) (h2 : SetAt x d₁ Γ₁ Γ₂) (hΩ : NoΩ σ x) (hΩ' : NoΩ σ y)
    (hc : (p.line == q.line && !(x == y) && vs.length == 2 && !(vs.any fun | .Starred .. => true | _ => false) && !(vs.all (foldedForSure 8)) && !(vs.all (constantsAlone 8))) = true) :
    Es F σ (.Assign [.Tuple [.Name x p, .Name y q] k tp] (.Tuple vs k' vp) pos) ⟨σ.X, Γ₂, σ.Ω⟩ := fun s S => by
  simp only [Bool.and_eq_true, beq_iff_eq, Bool.not_eq_true'] at hc
  obtain ⟨⟨⟨⟨⟨c1, c2⟩, c3⟩, c4⟩, c5⟩, c6⟩ := hc
  refine Assign_Tuple_swapped (wpAny_mono (h s S) (fun v s₁ ⟨k1, r1⟩ => ?_) fun _ _ e => e) (hw := swapped2 hx.2 hy.2 hf c1 c2 c3 c4 c5 c6)
  obtain ⟨a, items, rfl, ht, hl⟩ := r1.toTup
  simp only [RdL] at hl
  obtain ⟨v₁, _, e, rv₁, v₂, _, rfl, rv₂, rfl⟩ := hl
  have hs2 : items.size = 2 := by have := congrArg List.length e; simpa using this
  have hgo := unpackItems_tuple (prog := F.prog) (w := F.w) (E := NoE) (Q := fun items s₂ => wpAny (model F.prog F.w) F.A (assignInOrder ([x, y].reverse.map fun n => bindName F.env n) items.reverse) (fun _ s' => (Flow.next = .next) ∧ St F ⟨σ.X, Γ₂, σ.Ω⟩ s' ∧ KeepX σ.X s.heap s'.heap) NoE s₂) hr ht (fun h' he => ?_)
  · rw [hs2] at hgo; exact hgo
  have k2 : Kp s₁ { s₁ with heap := h' } := ⟨h', s₁.toks, rfl, fun b o e => he b o (Nat.ne_of_lt (Heap.lt_size e)) e⟩
  rw [e]
  show wpAny _ _ (assignInOrder [bindName F.env y, bindName F.env x] [v₂, v₁]) _ _ _
  have S₂ := (S.keeps k1).keeps k2
  refine assignInOrder_cons (bindName_ (wpAny_mono (S₂.store (.inl hy.2) hy.1 (rv₂.keep k2.k) h1 hΩ') (fun _ s₃ ⟨S₃, k3⟩ => ?_) fun _ _ e => e))
  refine assignInOrder_cons (bindName_ (wpAny_mono (S₃.store (.inl hx.2) hx.1 ((rv₁.keep k2.k).keepX k3) h2 hΩ) (fun _ s₄ ⟨S₄, k4⟩ => ?_) fun _ _ e => e))
  exact assignInOrder_nil ⟨rfl, S₄, ((k1.k.x.trans k2.k.x).trans k3).trans k4⟩

/-! ## while -/
theorem Es.while {τ : Type} {t : Expr} {b : List Stmt} {pos : Pos} {σf : τ → Ix} (X : Addr → Prop) (hX : ∀ i, (σf i).X = X) (P : τ → Prop) (μ : τ → Nat) {σ' : Ix}
    (turn : ∀ i, P i → (Tx F (σf i) t false ∧ σf i = σ') ∨ (Tx F (σf i) t true ∧ ∃ j, P j ∧ μ j < μ i ∧ Sx F (σf i) b (Nx F (σf j) NoF))) (i₀ : τ) (h₀ : P i₀) (hσ : σf i₀ = σ) :
    Es F σ (.While t b [] pos) σ' := fun s S => by
  subst hσ
  refine wpAny_While ?_
  refine codeAny_whileLoop (fun n s₁ => ∃ i, P i ∧ n = μ i ∧ St F (σf i) s₁ ∧ KeepX X s.heap s₁.heap) ?_ (μ i₀) ⟨i₀, h₀, rfl, S, (Keep.refl _).x⟩
  rintro n s₁ ⟨i, hi, rfl, S₁, k1⟩
  have e1 := hX i
  rcases turn i hi with ⟨ht, e⟩ | ⟨ht, j, hj, hlt, hb⟩
  · refine wpAny_mono (ht s₁ S₁) (fun c s₂ ⟨k2, ec⟩ => ?_) fun _ _ e => e.elim
    subst ec
    rw [if_neg Bool.false_ne_true]
    refine wpAny_execs_nil ?_
    exact ⟨rfl, e ▸ S₁.keeps k2, by rw [hX i₀]; exact k1.trans k2.k.x⟩
  · refine wpAny_mono (ht s₁ S₁) (fun c s₂ ⟨k2, ec⟩ => ?_) fun _ _ e => e.elim
    subst ec
    rw [if_pos rfl]
    refine wpAny_mono (hb s₂ (S₁.keeps k2)) (fun f s₃ ⟨k, k3⟩ => ?_) fun _ _ e => e.elim
    rw [e1] at k3
    cases f with
    | next => exact ⟨μ j, hlt, j, hj, rfl, k, (k1.trans k2.k.x).trans k3⟩
    | cont => exact k.elim
    | brk => exact k.elim
    | ret v => exact k.elim
end

end
end Mine
end

section
open PySem PySem.W PyProof.Rows PySem.Calls
set_option autoImplicit false
set_option maxRecDepth 100000
namespace Mine

noncomputable def NoRd (o : Obj) : Prop := o.cls ≠ .type "tuple" ∧ o.cls ≠ .type "list" ∧ o.cls ≠ .type "dict"
theorem NoRd.of {o : Obj} {T : String} (h : o.cls = .type T) (ht : (T == "tuple") = false ∧ (T == "list") = false ∧ (T == "dict") = false) : NoRd o := by
  refine ⟨?_, ?_, ?_⟩ <;> (rw [h]; intro e; injection e with e; subst e; simp at ht)
theorem NoRd.not {X : Addr → Prop} {b : Addr} {o : Obj} (h : NoRd o) : ¬ Rdb X b o := fun q => q.elim (fun z => h.1 z.1) fun z => z.2.elim h.2.1 h.2.2

/-- an iterator that hands on data -/
structure Wk (prog : Program) (w : World) (A : Around) (target : Expr) (X : Addr → Prop) (hs : Heap) (I : Addr) (fp wr : List Addr) (items : List Dt) (P Md : Nat → Value → Heap → Prop) (Sti : Nat → Heap → Prop) : Prop where
  turns : KTurns prog w A target I fp wr items.length P Md Sti
  self : ∀ i (s : Shared) (Q : Value → Shared → Prop), Sti i s.heap → Q (.ref I) s → wpAny (model prog w) A (pyIter (.ref I)) Q NoE s
  start : Sti 0 hs
  obj : ∀ i h, Sti i h → ∀ b ∈ wr, ∃ o, h.get? b = some o ∧ NoRd o
  fpx : ∀ b ∈ fp, b ∈ wr ∨ ∃ o, hs.get? b = some o ∧ (¬ X b ∨ IsT o)
  read : ∀ Y, Sub hs X Y → ∀ i v h d, items[i]? = some d → P i v h → KeepR Y hs h → Rd prog w Y h d v

noncomputable def Src (F : Fx) (σ : Ix) (target iter : Expr) (items : List Dt) : Prop := ∀ s, St F σ s →
  wpAny (model F.prog F.w) F.A (eval iter F.env) (fun x s₁ => wpAny (model F.prog F.w) F.A (pyIter x) (fun it s₂ => Kp s s₂ ∧ ∃ I fp wr P Md Sti, it = .ref I ∧ (∀ b ∈ wr, s.heap.get? b = none) ∧
    Wk F.prog F.w F.A target σ.X s₂.heap I fp wr items P Md Sti) NoE s₁) NoE s

theorem get_none {h h' : Heap} {n : Nat} (k : Keep h h') (hn : h'.objs.size ≤ n) : h.get? n = none := by
  cases e : h.get? n with
  | none => rfl
  | some o => exact absurd (Heap.lt_size (k _ _ e)) (Nat.not_lt.mpr hn)

section
variable {F : Fx} {σ : Ix} {s : Shared}

theorem isName {x : Str} {p : Pos} {it v : Value} : letOwnedTupleGo (.Name x p) it v = pure () := rfl

theorem Src.list {target iter : Expr} {l : List Dt} (hr : F.A.handled = none) (h : Ex F σ iter (.list l)) : Src F σ target iter l := fun s S =>
  wpAny_mono (h s S) (fun x s₁ ⟨k1, r1⟩ => by
    obtain ⟨a, items, rfl, hX, hl, hr'⟩ := r1.toList
    have hlt : a < s₁.heap.objs.size := by obtain ⟨_, e, _⟩ := hl; exact Heap.lt_size e
    refine wpAny_pyIter_list hl ?_
    have kp := St.pushK (o := { cls := .type "list_iterator", data := .fields #[.ref a, .int 0 0] }) (S.keeps k1)
    have W := Walks.list (prog := F.prog) (w := F.w) (A := F.A) hr s₁.heap.objs.size a (Nat.ne_of_lt hlt) items
    have hn : items.size = l.length := by have := hr'.length; simpa using this
    refine ⟨k1.trans kp, s₁.heap.objs.size, _, _, _, _, _, rfl, fun b hb => ?_, ⟨hn ▸ KTurns.ofWalks W fun i v s Q E st q => letGo_listiter st.1 q, fun i s Q st q => W.self i s Q _ st q,
      ⟨⟨_, Heap.get?_push_size _ rfl, rfl, rfl⟩, hl.push _⟩, fun i h st b hb => ?_, fun b hb => ?_, fun Y hY i v h d hd hP k => ?_⟩⟩
    · rw [List.mem_singleton.mp hb]; exact get_none k1.k (Nat.le_refl _)
    · obtain ⟨o, ho, hc, _⟩ := st.1
      rw [List.mem_singleton.mp hb]
      exact ⟨o, ho, NoRd.of hc (by decide)⟩
    · rcases List.mem_cons.mp hb with e | e
      · exact .inl (by rw [e]; exact List.mem_singleton.mpr rfl)
      · rw [List.mem_singleton.mp e]
        obtain ⟨o, ho, _⟩ := hl
        exact .inr ⟨o, kp.k _ _ ho, .inl hX⟩
    · obtain ⟨v', hv', rv⟩ := RdL.get hr' hd
      have hP' : items[i]? = some v := hP
      have : v' = v := by
        have e : items.toList[i]? = some v := by simpa using hP'
        rw [hv'] at e; exact Option.some.inj e
      subst this
      exact ((rv.keep kp.k).sub hY).keepR k) fun _ _ e => e

theorem Src.tuple {target iter : Expr} {l : List Dt} (hr : F.A.handled = none) (h : Ex F σ iter (.tup l)) : Src F σ target iter l := fun s S =>
  wpAny_mono (h s S) (fun x s₁ ⟨k1, r1⟩ => by
    obtain ⟨a, items, rfl, hl, hr'⟩ := r1.toTup
    have hlt : a < s₁.heap.objs.size := hl.lt
    have hl' : s₁.heap.IsTuple a items := hl
    refine wpAny_pyIter_tuple hl' ?_
    have kp := St.pushK (o := { cls := .type "tuple_iterator", data := .fields #[.ref a, .int 0 0] }) (S.keeps k1)
    have W := Walks.tuple (prog := F.prog) (w := F.w) (A := F.A) hr s₁.heap.objs.size a (Nat.ne_of_lt hlt) items
    have hn : items.size = l.length := by have := hr'.length; simpa using this
    refine ⟨k1.trans kp, s₁.heap.objs.size, _, _, _, _, _, rfl, fun b hb => ?_, ⟨hn ▸ KTurns.ofWalks W fun i v s Q E st q => letGo_tupleiter st.1 q, fun i s Q st q => W.self i s Q _ st q,
      ⟨⟨_, Heap.get?_push_size _ rfl, rfl, rfl⟩, hl'.push _⟩, fun i h st b hb => ?_, fun b hb => ?_, fun Y hY i v h d hd hP k => ?_⟩⟩
    · rw [List.mem_singleton.mp hb]; exact get_none k1.k (Nat.le_refl _)
    · obtain ⟨o, ho, hc, _⟩ := st.1
      rw [List.mem_singleton.mp hb]
      exact ⟨o, ho, NoRd.of hc (by decide)⟩
    · rcases List.mem_cons.mp hb with e | e
      · exact .inl (by rw [e]; exact List.mem_singleton.mpr rfl)
      · rw [List.mem_singleton.mp e]
        obtain ⟨o, ho, hc, n, hd⟩ := hl
        exact .inr ⟨o, kp.k _ _ ho, .inr ⟨hc, _, n, hd⟩⟩
    · obtain ⟨v', hv', rv⟩ := RdL.get hr' hd
      have hP' : items[i]? = some v := hP
      have : v' = v := by
        have e : items.toList[i]? = some v := by simpa using hP'
        rw [hv'] at e; exact Option.some.inj e
      subst this
      exact ((rv.keep kp.k).sub hY).keepR k) fun _ _ e => e

/-- the ints of a range -/
noncomputable def rangeD (n : Nat) : List Dt := (List.range n).map fun (i : Nat) => Dt.int (i : Int)
theorem rangeD_len (n : Nat) : (rangeD n).length = n := by simp [rangeD]

theorem Src.range {x : Str} {px : Pos} {e : Expr} {n : Nat} {p pos : Pos} (hr : F.A.handled = none) (hk : F.env.kindOf "range" = some .globalImplicit) (he : Ex F σ e (.int n)) (hn : n ≤ 1000000)
    (hse : ∀ env, backTo pos (starEach [e] env) = [(false, eval e env)] := by intro _; rfl) :
    Src F σ (.Name x px) (.Call (.Name "range" p) [e] [] pos) (rangeD n) := fun s S => by
  refine wpAny_Call_NameR (ldB S hk (by decide +kernel) PyProof.Rows.boot_range ?_)
  rw [hse]
  refine PySem.callWith_type rfl (Calls.evalArgs_plain (Calls.spliced_cons (wpAny_mono (he s S) (fun nv s₁ ⟨k1, r1⟩ => Calls.spliced_nil ?_) fun _ _ e => e)))
  obtain ⟨t, rfl⟩ := r1.toInt
  refine call_range_1 ?_
  refine wpAny_pyIter_range (IsRange.new ..) (small_one (by decide) (by decide) (by omega) (by omega)) ?_
  have hsz : Builtin.Range.rangeSize 0 (n : Int) 1 = (n : Int) := by rw [rangeSize_one]; split <;> omega
  refine ⟨k1.trans ⟨_, _, rfl, fun _ _ e => Heap.get?_push_of_some _ (Heap.get?_push_of_some _ e)⟩, (s₁.heap.push { cls := .type "range", data := .fields #[.int 0 s₁.toks, .int (n : Int) t, .int 1 (s₁.toks + 1)] }).objs.size, [_], [_],
    fun i v _ => ∃ t, v = .int (0 + (i : Int)) t, fun i v h => (∃ t, v = .int (0 + (i : Int)) t) ∧ IsRangeIter h _ (0 + ((i + 1 : Nat) : Int) * 1) ((n : Int) - ((i + 1 : Nat) : Int)) 1, fun i h => IsRangeIter h _ (0 + (i : Nat) * 1) ((n : Int) - (i : Nat)) 1, rfl, fun b hb => ?_,
    ⟨by rw [rangeD_len]; exact KTurns.ofWalks (LCg.range_walks (prog := F.prog) (w := F.w) hr 0 n) fun i v s Q E st q => by rw [isName]; exact wpAny_pure q,
      fun i s Q st q => wpAny_pyIter_rangeiter st q, ?_, fun i h st b hb => ?_, fun b hb => ?_, fun Y hY i v h d hd hP k => ?_⟩⟩
  · rw [List.mem_singleton.mp hb]
    refine get_none k1.k ?_
    show s₁.heap.objs.size ≤ (s₁.heap.push _).objs.size
    rw [Heap.size_push]; omega
  · show IsRangeIter _ _ _ _ _
    rw [hsz]
    have h2 := Heap.get?_push_size (s₁.heap.push { cls := .type "range", data := .fields #[.int 0 s₁.toks, .int (n : Int) t, .int 1 (s₁.toks + 1)] }) (o := { cls := .type "range_iterator", data := .fields #[rawInt 0, rawInt (n : Int), rawInt 1] }) rfl
    have e1 : (0 + ((0 : Nat) : Int) * 1) = 0 := by simp
    have e2 : ((n : Int) - ((0 : Nat) : Int)) = n := by simp
    rw [e1, e2]
    exact h2
  · rw [List.mem_singleton.mp hb]
    exact ⟨_, st, NoRd.of (T := "range_iterator") rfl (by decide)⟩
  · exact .inl hb
  · obtain ⟨t', rfl⟩ := hP
    have hi : i < n := by have := (List.getElem?_eq_some_iff.mp hd).1; rwa [rangeD_len] at this
    have : d = .int (i : Int) := by
      simp only [rangeD, List.getElem?_map, List.getElem?_range hi, Option.map_some, Option.some.injEq] at hd
      exact hd.symm
    subst this
    rw [Int.zero_add]
    exact Rd.int

/-! ## a dict's keys, whatever they are -/
noncomputable def RawD (h : Heap) (d : Addr) (es : Array DictEntry) (ep : Nat) : Prop := ∃ o, h.get? d = some o ∧ o.ExactDict ∧ o.data = .dict es ep
theorem RawD.typeIs {d : Addr} {es : Array DictEntry} {ep : Nat} (x : RawD s.heap d es ep) : s.TypeIs (.ref d) "dict" := let ⟨o, ho, hc, _⟩ := x; ⟨o, ho, hc.1⟩

section
variable {prog : Program} {w : World} {A : Around} {E : Value → Shared → Prop}
theorem rawIter {d : Addr} {es : Array DictEntry} {ep : Nat} {Q : Value → Shared → Prop} (hS : (d == sysModules) = false) (hm : RawD s.heap d es ep)
    (hQ : Q (.ref s.heap.objs.size) { s with heap := s.heap.push { cls := .type "dict_keyiterator", data := .fields #[.ref d, .int 0 0, .int es.size 0, .int ep 0] } }) :
    wpAny (model prog w) A (pyIter (.ref d)) Q E s := by
  have hT := hm.typeIs
  obtain ⟨o, ho, hc, hdat⟩ := hm
  refine wpAny_pyIter_slot hT F.slot_dict_iter (wpAny_call_entry F.slot_dict_iter hT F.entry_dict_iter ?_ (F.args_dict_iter_1 _))
  unfold Builtin.«dict.__iter__»
  refine wpAny_bind ?_
  unfold Builtin.Dict.dictSlotNone
  refine wpAny_bind (wpAny_notOrdered_dict hT ?_)
  show wpAny _ _ (pure (Value.ref d)) _ _ s
  refine wpAny_pure ?_
  show wpAny _ _ (Builtin.Dict.showsAll d >>= _) _ _ s
  unfold Builtin.Dict.showsAll
  rw [if_neg (by rw [hS]; exact Bool.false_ne_true)]
  refine wpAny_bind (wpAny_pure (wpAny_bind (wpAny_dictEntries ho hdat (wpAny_bind (wpAny_dictEpoch ho hdat ?_)))))
  exact wpAny_bind (wpAny_newObj_type (wpAny_pure ⟨_, rfl, "dict_keyiterator", _, ⟨_, Heap.get?_push_size _ rfl, rfl⟩, F.slot_dict_keyiterator_next.lookup, hQ⟩))

theorem rawNext {it d : Addr} {i ep : Nat} {es : Array DictEntry} {e : DictEntry} {Q : Option Value → Shared → Prop} (hit : s.heap.IsKeyIter it d i es.size ep)
    (hm : RawD s.heap d es ep) (hx : es[i]? = some e)
    (hQ : ∀ h', h'.IsKeyIter it d (i + 1) es.size ep → Heap.SameBut it s.heap h' → Q (some e.key) { s with heap := h' }) :
    wpAny (model prog w) A (pyNext (.ref it)) Q E s := by
  obtain ⟨o, ho, hc, hd⟩ := id hit
  obtain ⟨od, hod, hcd, hdd⟩ := id hm
  have hown : Builtin.Dict_items.ownsTuple "dict_keyiterator" = false := by decide
  have hlt : i < es.size := by
    rcases Nat.lt_or_ge i es.size with h | h
    · exact h
    · rw [Array.getElem?_eq_none h] at hx; cases hx
  unfold pyNext
  refine wpAny_bind (wpAny_attempt (wpAny_callSpecial?_slot (name := Str.ofString "__next__") hit.typeIs F.slot_dict_keyiterator_next
    (wpAny_call_entry F.slot_dict_keyiterator_next hit.typeIs F.entry_dict_keyiterator_next ?_ (F.args_dict_keyiterator_next_1 _))))
  refine wpAny_bind (wpAny_pure (wpAny_bind (wpAny_bind ?_)))
  first | refine wpAny_bind (wpAny_typeNameOfWhole_keyiter hit.typeIs (wpAny_pure ?_)) | refine wpAny_bind (wpAny_typeNameOf_keyiter hit.typeIs (wpAny_pure ?_))
  refine wpAny_bind (wpAny_fieldsOf ho hd ?_)
  simp only [hown, Bool.false_eq_true, if_false]
  show wpAny _ _ (if (Value.ref d == Value.none) = true then _ else _) _ _ s
  rw [if_neg (show ¬ ((Value.ref d == Value.none) = true) from Bool.false_ne_true)]
  refine wpAny_bind (wpAny_pure (wpAny_bind (wpAny_dictEntries hod hdd ?_)))
  rw [if_neg (by simp)]
  refine wpAny_bind (wpAny_pure (wpAny_bind (wpAny_dictEpoch hod hdd ?_)))
  rw [if_neg (by simp)]
  refine wpAny_pure ?_
  have hge : es[i] = e := by rw [Array.getElem?_eq_getElem hlt] at hx; exact Option.some.inj hx
  simp only [show ¬ ((i : Int) < 0) from by omega, if_false, Int.toNat_natCast, Array.getElem?_eq_getElem hlt]
  refine wpAny_bind ?_
  first | refine wpAny_bind (wpAny_typeNameOfWhole_keyiter hit.typeIs (wpAny_pure ?_)) | refine wpAny_bind (wpAny_typeNameOf_keyiter hit.typeIs (wpAny_pure ?_))
  refine wpAny_bind (wpAny_isOneOf_keyiter hit.typeIs ?_)
  show wpAny _ _ (setField (.ref it) 1 (rawInt ((i : Int) + 1)) >>= _) _ _ s
  refine wpAny_bind (wpAny_setField ho hd (by simp) ?_)
  have hit' : (s.heap.update it (Obj.mapFields (·.setIfInBounds 1 (rawInt ((i : Int) + 1))))).IsKeyIter it d (i + 1) es.size ep :=
    ⟨_, Heap.get?_update_self _ ho (Obj.isFreed_of_fields (Obj.data_mapFields hd _)), (Obj.cls_mapFields ..).trans hc, by rw [Obj.data_mapFields hd]; simp [rawInt]⟩
  refine wpAny_bind (wpAny_holding ?_)
  refine wpAny_bind (wpAny_isOneOf_keyiter (s := { s with heap := s.heap.update it (Obj.mapFields (·.setIfInBounds 1 (rawInt ((i : Int) + 1)))) }) hit'.typeIs ?_)
  show wpAny _ _ (pure es[i].key) _ _ _
  rw [hge]
  exact wpAny_pure (wpAny_pure ⟨_, rfl, wpAny_pure (hQ _ hit' (Heap.SameBut.update ..))⟩)

theorem rawEnd {it d : Addr} {i ep : Nat} {es : Array DictEntry} {Q : Option Value → Shared → Prop} (hh : A.handled = none) (hit : s.heap.IsKeyIter it d i es.size ep)
    (hm : RawD s.heap d es ep) (hx : es.size ≤ i)
    (hQ : ∀ h', Heap.ExtBut it s.heap h' → Q none { s with heap := h' }) : wpAny (model prog w) A (pyNext (.ref it)) Q E s := by
  obtain ⟨o, ho, hc, hd⟩ := id hit
  obtain ⟨od, hod, hcd, hdd⟩ := id hm
  have hown : Builtin.Dict_items.ownsTuple "dict_keyiterator" = false := by decide
  unfold pyNext
  refine wpAny_bind (wpAny_attempt (wpAny_callSpecial?_slot (name := Str.ofString "__next__") hit.typeIs F.slot_dict_keyiterator_next
    (wpAny_call_entry F.slot_dict_keyiterator_next hit.typeIs F.entry_dict_keyiterator_next ?_ (F.args_dict_keyiterator_next_1 _))))
  refine wpAny_bind (wpAny_pure (wpAny_bind (wpAny_bind ?_)))
  first | refine wpAny_bind (wpAny_typeNameOfWhole_keyiter hit.typeIs (wpAny_pure ?_)) | refine wpAny_bind (wpAny_typeNameOf_keyiter hit.typeIs (wpAny_pure ?_))
  refine wpAny_bind (wpAny_fieldsOf ho hd ?_)
  simp only [hown, Bool.false_eq_true, if_false]
  show wpAny _ _ (if (Value.ref d == Value.none) = true then _ else _) _ _ s
  rw [if_neg (show ¬ ((Value.ref d == Value.none) = true) from Bool.false_ne_true)]
  refine wpAny_bind (wpAny_pure (wpAny_bind (wpAny_dictEntries hod hdd ?_)))
  rw [if_neg (by simp)]
  refine wpAny_bind (wpAny_pure (wpAny_bind (wpAny_dictEpoch hod hdd ?_)))
  rw [if_neg (by simp)]
  refine wpAny_pure ?_
  simp only [show ¬ ((i : Int) < 0) from by omega, if_false, Int.toNat_natCast, Array.getElem?_eq_none hx]
  refine wpAny_bind ?_
  first | refine wpAny_bind (wpAny_typeNameOfWhole_keyiter hit.typeIs (wpAny_pure ?_)) | refine wpAny_bind (wpAny_typeNameOf_keyiter hit.typeIs (wpAny_pure ?_))
  show wpAny _ _ (setField (.ref it) 0 .none >>= _) _ _ s
  refine wpAny_bind (wpAny_setField ho hd (by simp) ?_)
  show wpAny _ _ (newExc (.type "StopIteration") [] >>= _) _ _ _
  refine wpAny_bind ?_
  simp only [newExc, newTuple]
  refine wpAny_bind (wpAny_newObj_type ?_ (by size_fits))
  refine wpAny_bind (m := firstArgMember _ _) (wpAny_of_eq (a := Value.none) (by first | rfl | (simp only [firstArgMember]; rfl)) ?_)
  refine wpAny_newObj_type ?_ (by size_fits)
  simp only [raiseNew]
  refine wpAny_bind (wpAny_handled ?_)
  rw [show A.in1.handled = none from hh]
  refine wpAny_bind (wpAny_pure (wpAny_throw ?_))
  refine wpAny_bind (wpAny_isInstance (T := "StopIteration") (b := true) ⟨_, Heap.get?_push_size _ rfl, rfl⟩ isSubtype_stop ?_)
  exact wpAny_pure (hQ _ (((Heap.SameBut.update ..).extBut.push _).push _))

theorem rawWalks (hh : A.handled = none) (I d : Addr) (hne : d ≠ I) (es : Array DictEntry) (ep : Nat) :
    Walks prog w A I [I, d] [I] es.size (fun i v => ∃ e, es[i]? = some e ∧ e.key = v) (fun i h => h.IsKeyIter I d i es.size ep ∧ RawD h d es ep) where
  sub := fun b hb => by simp at hb; simp [hb]
  frame := fun _ _ _ st hk => ⟨st.1.at fun o e => hk I (by simp) o e, let ⟨o, ho, r⟩ := st.2; ⟨o, hk d (by simp) o ho, r⟩⟩
  item := fun i s Q E hi st hQ => by
    refine rawNext st.1 st.2 (e := es[i]) (by simp [hi]) fun h' hit' hs' => ?_
    exact hQ _ h' s.toks ⟨es[i], by simp [hi], rfl⟩ ⟨hit', let ⟨o, ho, r⟩ := st.2; ⟨o, hs'.extBut d o hne ho, r⟩⟩ fun b o hb e => hs'.extBut b o (fun h => hb (by simp [h])) e
  done := fun s Q E st hQ => rawEnd hh st.1 st.2 (Nat.le_refl _) fun h' he' => hQ h' s.toks fun b o hb e => he' b o (fun h => hb (by simp [h])) e
  self := fun _ _ _ _ st hQ => wpAny_pyIter_keyiter st.1 hQ
end

/-- the keys of a dict, as data -/
noncomputable def keysD (l : List (List Int × Dt)) : List Dt := l.map fun e => keyD e.1

theorem keyItems {prog : Program} {w : World} {X : Addr → Prop} {h : Heap} {ks : List Int} {vs : List Value} (x : PySem.ItemsAre (intKind prog w) ks vs) : RdL prog w X h (ks.map .int) vs := by
  induction x with
  | nil => simp [RdL]
  | cons hv _ ih =>
    obtain ⟨t, rfl⟩ := Value.isInt_shape hv
    simp only [List.map_cons, RdL]
    exact ⟨_, _, rfl, Rd.int, ih⟩

theorem RdD.keyAt {prog : Program} {w : World} {X : Addr → Prop} {h h' : Heap} {a : Addr} {l : List (List Int × Dt)} {xs : List (List Int × Addr × Value)} (hD : DictE prog w h a xs) (hr : RdD prog w X h l xs)
    {o : Obj} {es : Array DictEntry} {ep : Nat} (ho : h.get? a = some o) (hd : o.data = .dict es ep) {i : Nat} {e : DictEntry} {d : Dt} (he : es[i]? = some e) (hi : (keysD l)[i]? = some d) (k : KeepR X h h') : Rd prog w X h' d e.key := by
  obtain ⟨o', es', ep', ho', hc, hd', hes, his, hn⟩ := hD
  rw [ho] at ho'; cases ho'
  rw [hd] at hd'; cases hd'
  have h1 : es.toList[i]? = some e := by simpa using he
  rw [hes, List.getElem?_map] at h1
  obtain ⟨x, hx, rfl⟩ := Option.map_eq_some_iff.mp h1
  have hk := hr.keys
  have h2 : (xs.map (·.1))[i]? = some x.1 := by rw [List.getElem?_map, hx]; rfl
  rw [hk, List.getElem?_map] at h2
  obtain ⟨y, hy, e1⟩ := Option.map_eq_some_iff.mp h2
  have h3 : (keysD l)[i]? = some (keyD y.1) := by simp [keysD, hy]
  rw [hi] at h3; cases h3
  obtain ⟨ok, items, n, hok, hck, hdk, hia⟩ := his x (List.mem_of_getElem? hx)
  refine Rd.keepR (Rd.tup ⟨ok, hok, hck, n, hdk⟩ ?_) k
  rw [e1]
  exact keyItems hia

theorem Src.dict {target iter : Expr} {l : List (List Int × Dt)} (hr : F.A.handled = none) (h : Ex F σ iter (.dict l)) : Src F σ target iter (keysD l) := fun s S =>
  wpAny_mono (h s S) (fun x s₁ ⟨k1, r1⟩ => by
    obtain ⟨a, xs, rfl, hX, h2, hD, hr'⟩ := r1.toDict
    obtain ⟨o, es, ep, ho, hc, hd, hes, his, hn⟩ := id hD
    have hlt : a < s₁.heap.objs.size := Heap.lt_size ho
    have hl' : RawD s₁.heap a es ep := ⟨o, ho, hc, hd⟩
    refine rawIter (beq_false_of_ne fun e => by subst e; exact absurd h2 (by decide)) hl' ?_
    have kp := St.pushK (o := { cls := .type "dict_keyiterator", data := .fields #[.ref a, .int 0 0, .int es.size 0, .int ep 0] }) (S.keeps k1)
    have W := rawWalks (prog := F.prog) (w := F.w) (A := F.A) hr s₁.heap.objs.size a (Nat.ne_of_lt hlt) es ep
    have hsz : es.size = (keysD l).length := by
      have e1 := congrArg List.length hes
      have e2 := hr'.length
      simp [keysD] at e1 ⊢
      omega
    refine ⟨k1.trans kp, s₁.heap.objs.size, _, _, fun i v _ => ∃ e, es[i]? = some e ∧ e.key = v, fun i v h => (∃ e, es[i]? = some e ∧ e.key = v) ∧ h.IsKeyIter s₁.heap.objs.size a (i + 1) es.size ep ∧ RawD h a es ep,
      fun i h => h.IsKeyIter s₁.heap.objs.size a i es.size ep ∧ RawD h a es ep, rfl, fun b hb => ?_, ⟨by rw [← hsz]; exact KTurns.ofWalks W fun i v s Q E st q => letGo_keyiter st.1 q, fun i s Q st q => W.self i s Q _ st q,
      ⟨⟨_, Heap.get?_push_size _ rfl, rfl, rfl⟩, ⟨o, kp.k _ _ ho, hc, hd⟩⟩, fun i h st b hb => ?_, fun b hb => ?_, fun Y hY i v h d hdi hP k => ?_⟩⟩
    · rw [List.mem_singleton.mp hb]; exact get_none k1.k (Nat.le_refl _)
    · obtain ⟨o, ho, hc, _⟩ := st.1
      rw [List.mem_singleton.mp hb]
      exact ⟨o, ho, NoRd.of hc (by decide)⟩
    · rcases List.mem_cons.mp hb with e | e
      · exact .inl (by rw [e]; exact List.mem_singleton.mpr rfl)
      · rw [List.mem_singleton.mp e]
        exact .inr ⟨o, kp.k _ _ ho, .inl hX⟩
    · obtain ⟨e, he, rfl⟩ := hP
      exact (((RdD.keyAt hD hr' ho hd he hdi (Keep.refl _).x.r).keep kp.k).sub hY).keepR k) fun _ _ e => e

/-! ## a change of iterators alone -/
theorem St.offI (S : St F σ s) {h' : Heap} {tk : Nat} (wr : List Addr) (hk : ∀ b o, b ∉ wr → s.heap.get? b = some o → h'.get? b = some o)
    (ho : ∀ b ∈ wr, ∃ o, s.heap.get? b = some o ∧ NoRd o) (hX : ∀ b ∈ wr, ¬ σ.X b) (h0 : ∀ b ∈ wr, ∀ o, ¬ F.W b → F.s₀.heap.get? b ≠ some o) (hb : ∀ b ∈ wr, F.base.get? b = none) :
    St F σ { s with heap := h', toks := tk } :=
  S.off wr hk (fun b hb => let ⟨o, e, n⟩ := ho b hb; ⟨o, e, n.not⟩) (fun b hb e => hX b hb (e ▸ S.locX)) (fun b hb x c q e => hX b hb (e ▸ (S.cells x c q).2.1)) (fun b hb p hp e => hX b hb (e ▸ (S.own p hp).2.2.1))
    (fun b hb q => absurd q (hX b hb)) h0 hb

/-- a target takes a datum -/
noncomputable def Tg (F : Fx) (Ω : List (Str × Addr × Dt)) (target : Expr) (d : Dt) (Γ Γ' : List (Str × Option Dt)) : Prop :=
  ∀ s X v, St F ⟨X, Γ, Ω⟩ s → Rd F.prog F.w X s.heap d v → wpAny (model F.prog F.w) F.A (assign target F.env v) (fun _ s' => St F ⟨X, Γ', Ω⟩ s' ∧ KeepX X s.heap s'.heap) NoE s
theorem Tg.name {Ω : List (Str × Addr × Dt)} {x : Str} {p : Pos} {d : Dt} {Γ Γ' : List (Str × Option Dt)} (ho : Own F.env x) (hs : SetAt x d Γ Γ') (hΩ : ∀ q ∈ Ω, q.1 ≠ x) : Tg F Ω (.Name x p) d Γ Γ' := fun s X v S r =>
  PyProof.Rows.assign_Name (S.store ho.2 ho.1 r hs hΩ)
theorem Tg.pair {Ω : List (Str × Addr × Dt)} {x y : Str} {p q tp : Pos} {k : Nat} {d₁ d₂ : Dt} {Γ Γ₁ Γ₂ : List (Str × Option Dt)} (hr : F.A.handled = none) (ho : Own F.env x) (ho' : Own F.env y) (hs : SetAt x d₁ Γ Γ₁) (hs' : SetAt y d₂ Γ₁ Γ₂)
    (hΩ : ∀ q ∈ Ω, q.1 ≠ x) (hΩ' : ∀ q ∈ Ω, q.1 ≠ y) : Tg F Ω (.Tuple [.Name x p, .Name y q] k tp) (.tup [d₁, d₂]) Γ Γ₂ := fun s X v S r => by
  obtain ⟨a, items, rfl, ht, hl⟩ := r.toTup
  simp only [RdL] at hl
  obtain ⟨v₁, _, e, rv₁, v₂, _, rfl, rv₂, rfl⟩ := hl
  have hs2 : items.size = 2 := by have := congrArg List.length e; simpa using this
  refine assign_Tuple_tuple hr ht (by rw [hs2]; rfl) rfl fun h' he => ?_
  have k2 : Kp s { s with heap := h' } := ⟨h', s.toks, rfl, fun b o e => he b o (Nat.ne_of_lt (Heap.lt_size e)) e⟩
  rw [e]
  show wpAny _ _ (assignInOrder [assign (.Name x p) F.env, assign (.Name y q) F.env] [v₁, v₂]) _ _ _
  have S₂ := S.keeps k2
  refine assignInOrder_cons (PyProof.Rows.assign_Name (wpAny_mono (S₂.store ho.2 ho.1 (rv₁.keep k2.k) hs hΩ) (fun _ s₃ ⟨S₃, k3⟩ => ?_) fun _ _ e => e))
  refine assignInOrder_cons (PyProof.Rows.assign_Name (wpAny_mono (S₃.store ho'.2 ho'.1 ((rv₂.keep k2.k).keepX k3) hs' hΩ') (fun _ s₄ ⟨S₄, k4⟩ => ?_) fun _ _ e => e))
  exact assignInOrder_nil ⟨S₄, (k2.k.x.trans k3).trans k4⟩

/-- the same, where the target is a local: nothing but the frame's own dict is changed -/
noncomputable def TgL (F : Fx) (Ω : List (Str × Addr × Dt)) (target : Expr) (d : Dt) (Γ Γ' : List (Str × Option Dt)) : Prop :=
  ∀ s X v, St F ⟨X, Γ, Ω⟩ s → Rd F.prog F.w X s.heap d v → wpAny (model F.prog F.w) F.A (assign target F.env v) (fun _ s' => St F ⟨X, Γ', Ω⟩ s' ∧ ∀ b o, b ≠ F.env.locals → s.heap.get? b = some o → s'.heap.get? b = some o) NoE s
theorem TgL.name {Ω : List (Str × Addr × Dt)} {x : Str} {p : Pos} {d : Dt} {Γ Γ' : List (Str × Option Dt)} (hd : (x == ("__debug__" : Str)) = false) (ho : F.env.kindOf x = some .local) (hs : SetAt x d Γ Γ') (hΩ : ∀ q ∈ Ω, q.1 ≠ x) : TgL F Ω (.Name x p) d Γ Γ' := fun s X v S r =>
  PyProof.Rows.assign_Name (wpAny_mono (S.storeL ho hd r hs hΩ) (fun _ _ q => ⟨q.1, q.2.2⟩) fun _ _ e => e)
theorem TgL.pair {Ω : List (Str × Addr × Dt)} {x y : Str} {p q tp : Pos} {k : Nat} {d₁ d₂ : Dt} {Γ Γ₁ Γ₂ : List (Str × Option Dt)} (hr : F.A.handled = none) (hd : (x == ("__debug__" : Str)) = false) (ho : F.env.kindOf x = some .local) (hd' : (y == ("__debug__" : Str)) = false) (ho' : F.env.kindOf y = some .local)
    (hs : SetAt x d₁ Γ Γ₁) (hs' : SetAt y d₂ Γ₁ Γ₂)
    (hΩ : ∀ q ∈ Ω, q.1 ≠ x) (hΩ' : ∀ q ∈ Ω, q.1 ≠ y) : TgL F Ω (.Tuple [.Name x p, .Name y q] k tp) (.tup [d₁, d₂]) Γ Γ₂ := fun s X v S r => by
  obtain ⟨a, items, rfl, ht, hl⟩ := r.toTup
  simp only [RdL] at hl
  obtain ⟨v₁, _, e, rv₁, v₂, _, rfl, rv₂, rfl⟩ := hl
  have hs2 : items.size = 2 := by have := congrArg List.length e; simpa using this
  refine assign_Tuple_tuple hr ht (by rw [hs2]; rfl) rfl fun h' he => ?_
  have k2 : Kp s { s with heap := h' } := ⟨h', s.toks, rfl, fun b o e => he b o (Nat.ne_of_lt (Heap.lt_size e)) e⟩
  rw [e]
  show wpAny _ _ (assignInOrder [assign (.Name x p) F.env, assign (.Name y q) F.env] [v₁, v₂]) _ _ _
  have S₂ := S.keeps k2
  refine assignInOrder_cons (PyProof.Rows.assign_Name (wpAny_mono (S₂.storeL ho hd (rv₁.keep k2.k) hs hΩ) (fun _ s₃ ⟨S₃, k3, f3⟩ => ?_) fun _ _ e => e))
  refine assignInOrder_cons (PyProof.Rows.assign_Name (wpAny_mono (S₃.storeL ho' hd' ((rv₂.keep k2.k).keepX k3) hs' hΩ') (fun _ s₄ ⟨S₄, k4, f4⟩ => ?_) fun _ _ e => e))
  exact assignInOrder_nil ⟨S₄, fun b o n e => f4 b o n (f3 b o n (k2.k b o e))⟩

/-! ## for -/
theorem Es.forN {target iter : Expr} {body : List Stmt} {pos : Pos} {items : List Dt} {σf : Nat → Ix} (X : Addr → Prop) (hX : ∀ i, (σf i).X = X) (hsrc : Src F (σf 0) target iter items)
    (turn : ∀ i d, items[i]? = some d → ∃ Γ', Tg F (σf i).Ω target d (σf i).Γ Γ' ∧ Sx F ⟨X, Γ', (σf i).Ω⟩ body (Nx F (σf (i + 1)) NoF)) (hfs : ∀ x env, foldedSetIterable iter env x = pure x) :
    Es F (σf 0) (.For target iter body [] pos) (σf items.length) := fun s S => by
  refine wpAny_For (wpAny_mono (hsrc s S) (fun x s₁ h₁ => wpAny_mono h₁ (fun it s₂ h₂ => ?_) fun _ _ e => e) fun _ _ e => e) (fun x => hfs x F.env)
  obtain ⟨k0, I, fp, wr, P, Md, Sti, rfl, hfr, W⟩ := h₂
  rw [hX 0] at W
  have S₂ := S.keeps k0
  have hwX : ∀ b ∈ wr, ¬ X b := fun b hb q => by
    obtain ⟨o, e⟩ := S.xin b (by rw [hX 0]; exact q)
    rw [hfr b hb] at e; cases e
  have hw0 : ∀ b ∈ wr, ∀ o, ¬ F.W b → F.s₀.heap.get? b ≠ some o := fun b hb o hw e => by
    have := S.keep b o hw e
    rw [hfr b hb] at this; cases this
  have hwb : ∀ b ∈ wr, F.base.get? b = none := fun b hb => by
    cases e : F.base.get? b with
    | none => rfl
    | some o => have := S.base b o e; rw [hfr b hb] at this; cases this
  refine codeAny_forLoop_any (fun n s' => ∃ i, n = items.length + 1 - i ∧ i ≤ items.length ∧ Sti i s'.heap ∧ St F (σf i) s' ∧ KeepX X s.heap s'.heap ∧
      (∀ b ∈ fp, b ∉ wr → ∀ o, s₂.heap.get? b = some o → s'.heap.get? b = some o) ∧ KeepR X s₂.heap s'.heap) ?_ (items.length + 1)
    ⟨0, rfl, Nat.zero_le _, W.start, S₂, k0.k.x, fun _ _ _ _ e => e, (Keep.refl _).x.r⟩
  rintro n s' ⟨i, rfl, hi, hst, S', kx, kf, kr⟩
  -- what a change of the iterators alone leaves
  have offI : ∀ (h₁ : Heap) (tk : Nat), (∀ b o, b ∉ wr → s'.heap.get? b = some o → h₁.get? b = some o) → St F (σf i) { s' with heap := h₁, toks := tk } ∧ KeepX X s.heap h₁ ∧
      (∀ b ∈ fp, b ∉ wr → ∀ o, s₂.heap.get? b = some o → h₁.get? b = some o) ∧ KeepR X s₂.heap h₁ := fun h₁ tk hk =>
    ⟨S'.offI wr hk (W.obj i _ hst) (by rw [hX i]; exact hwX) hw0 hwb, fun b o e q => hk b o (fun hm => by rw [hfr b hm] at e; cases e) (kx b o e q), fun b hb hn o e => hk b o hn (kf b hb hn o e),
      fun b o e q => by
        have e' := kr b o e q
        refine hk b o (fun hm => ?_) e'
        obtain ⟨o', e'', nr⟩ := W.obj i _ hst b hm
        rw [e'] at e''; cases e''
        exact nr.not q⟩
  by_cases hlt : i < items.length
  · have hd : items[i]? = some items[i] := List.getElem?_eq_getElem hlt
    refine W.turns.item i s' _ _ hlt hst fun v h₁ tk₁ hMd hk₁ => ?_
    refine W.turns.go i v _ _ _ hMd fun h₂ hP hst₂ hk₂ => ?_
    have hk : ∀ b o, b ∉ wr → s'.heap.get? b = some o → h₂.get? b = some o := fun b o hb e => hk₂ b o hb (hk₁ b o hb e)
    obtain ⟨S₃, kx₃, kf₃, kr₃⟩ := offI h₂ tk₁ hk
    have rv := W.read X Sub.refl i v h₂ _ hd hP kr₃
    obtain ⟨Γ', htg, hbody⟩ := turn i _ hd
    have S₃' : St F ⟨X, (σf i).Γ, (σf i).Ω⟩ { s' with heap := h₂, toks := tk₁ } := by
      have e : σf i = ⟨X, (σf i).Γ, (σf i).Ω⟩ := by rw [← hX i]
      rw [← e]; exact S₃
    refine wpAny_mono (htg _ X v S₃' rv) (fun _ s₄ ⟨S₄, k4⟩ => wpAny_mono (hbody s₄ S₄) (fun f s₅ ⟨hf, k5⟩ => ?_) fun _ _ e => e.elim) fun _ _ e => e.elim
    cases f with
    | brk => exact hf.elim
    | cont => exact hf.elim
    | ret v => exact hf.elim
    | next =>
      have k45 : KeepX X h₂ s₅.heap := KeepX.trans k4 k5
      have kfp : ∀ b ∈ fp, ∀ o, h₂.get? b = some o → s₅.heap.get? b = some o := fun b hb o e => by
        by_cases hw : b ∈ wr
        · exact k45 b o e (.inl (hwX b hw))
        · rcases W.fpx b hb with q | ⟨o', e', q⟩
          · exact absurd q hw
          · have := kf₃ b hb hw o' e'
            rw [e] at this; cases this
            exact k45 b o e q
      exact ⟨items.length + 1 - (i + 1), by omega, i + 1, rfl, hlt, W.turns.frame _ _ _ hst₂ kfp, hf, kx₃.trans k45, fun b hb hn o e => kfp b hb o (kf₃ b hb hn o e), kr₃.trans k45.r⟩
  · have hie : i = items.length := Nat.le_antisymm hi (Nat.not_lt.mp hlt)
    refine W.turns.done s' _ _ (hie ▸ hst) fun h₁ tk₁ hk₁ => ?_
    obtain ⟨S₃, kx₃, _, _⟩ := offI h₁ tk₁ hk₁
    refine wpAny_execs_nil ?_
    exact ⟨rfl, hie ▸ S₃, by rw [hX 0]; exact kx₃⟩

theorem take_succ' {α : Type} {xs : List α} {i : Nat} {x : α} (h : xs[i]? = some x) : xs.take (i + 1) = xs.take i ++ [x] ∧ ∃ post, xs = xs.take i ++ x :: post := by
  have hi := (List.getElem?_eq_some_iff.mp h).1
  refine ⟨by rw [List.take_add_one, h]; rfl, xs.drop (i + 1), ?_⟩
  have e := List.drop_eq_getElem_cons hi
  have hx : xs[i] = x := (List.getElem?_eq_some_iff.mp h).2
  rw [hx] at e
  rw [← e, List.take_append_drop]

/-- for, over data made of xs; what stands between the turns by what has been taken -/
theorem Es.for {α : Type} {target iter : Expr} {body : List Stmt} {pos : Pos} (xs : List α) (φ : α → Dt) (X : Addr → Prop) (g : List α → List (Str × Option Dt)) (w : List α → List (Str × Addr × Dt)) {items : List Dt} (hφ : items = xs.map φ)
    (hsrc : Src F ⟨X, g [], w []⟩ target iter items)
    (turn : ∀ pre x post, xs = pre ++ x :: post → ∃ Γ', Tg F (w pre) target (φ x) (g pre) Γ' ∧ Sx F ⟨X, Γ', w pre⟩ body (Nx F ⟨X, g (pre ++ [x]), w (pre ++ [x])⟩ NoF)) (hfs : ∀ x env, foldedSetIterable iter env x = pure x := by intro _ _; rfl) :
    Es F ⟨X, g [], w []⟩ (.For target iter body [] pos) ⟨X, g xs, w xs⟩ := by
  subst hφ
  have h := Es.forN (F := F) (target := target) (iter := iter) (body := body) (pos := pos) (items := xs.map φ) (σf := fun i => ⟨X, g (xs.take i), w (xs.take i)⟩) X (fun _ => rfl) (by simpa using hsrc) (fun i d hd => ?_) hfs
  · simpa using h
  · rw [List.getElem?_map] at hd
    obtain ⟨x, hx, rfl⟩ := Option.map_eq_some_iff.mp hd
    obtain ⟨e1, post, e2⟩ := take_succ' hx
    obtain ⟨Γ', h1, h2⟩ := turn (xs.take i) x post e2
    refine ⟨Γ', h1, ?_⟩
    simp only [e1]
    exact h2

end
end Mine
end

section
open PySem PySem.W PyProof.Rows PySem.Calls
open PySem.AutoSeq1 (wpAny_loadPart')
set_option autoImplicit false
set_option maxRecDepth 100000
namespace Mine

section
variable {prog : Program} {w : World} {A : Around} {E : Value → Shared → Prop} {s : Shared}

theorem nextOf_tup {it t : Addr} {i : Nat} {items : Array Value} {x : Value} {Q : Value → Shared → Prop} (hit : s.heap.IsTupleIter it t i) (ht : s.heap.IsTuple t items) (hx : items[i]? = some x)
    (hQ : ∀ h', h'.IsTupleIter it t (i + 1) → Heap.SameBut it s.heap h' → Q x { s with heap := h' }) : wpAny (model prog w) A (Builtin.SmallTypes.nextOf (.ref it)) Q E s := by
  obtain ⟨o, ho, hc, hd⟩ := id hit
  obtain ⟨ol, hol, _, nl, hdl⟩ := ht
  unfold Builtin.SmallTypes.nextOf
  refine wpAny_bind (wpAny_callSpecial?_slot (name := Str.ofString "__next__") hit.typeIs F.slot_tuple_iterator_next
    (wpAny_call_entry F.slot_tuple_iterator_next hit.typeIs F.entry_tuple_iterator_next ?_ (F.args_tuple_iterator_next_1 _)))
  show wpAny _ _ (field (.ref it) 0 >>= _) _ _ s
  refine wpAny_bind (wpAny_field ho hd (x := .ref t) rfl ?_)
  show wpAny _ _ (if (Value.ref t == Value.none) = true then _ else _) _ _ s
  rw [if_neg (show ¬ ((Value.ref t == Value.none) = true) from Bool.false_ne_true)]
  show wpAny _ _ (field (.ref it) 1 >>= _) _ _ s
  refine wpAny_bind (wpAny_field ho hd (x := .int i 0) rfl ?_)
  show wpAny _ _ (seqItems? (.ref t) >>= _) _ _ s
  refine wpAny_bind (wpAny_seqItems hol hdl ?_)
  simp only [Int.toNat_natCast, hx]
  exact wpAny_bind (wpAny_setField ho hd (by simp) (wpAny_pure ⟨x, rfl, wpAny_pure (hQ _ ⟨_, Heap.get?_update_self _ ho (Obj.isFreed_of_fields (Obj.data_mapFields hd _)), (Obj.cls_mapFields ..).trans hc, by
    rw [Obj.data_mapFields hd]; simp [rawInt]⟩ (Heap.SameBut.update ..))⟩))

theorem nextOf_tup_end {it t : Addr} {i : Nat} {items : Array Value} {Q : Value → Shared → Prop} (hh : A.handled = none) (hit : s.heap.IsTupleIter it t i) (ht : s.heap.IsTuple t items) (hx : items[i]? = none)
    (hE : ∀ h' e, Heap.ExtBut it s.heap h' → (∃ o, h'.get? e = some o ∧ o.cls = .type "StopIteration") → E (.ref e) { s with heap := h' }) :
    wpAny (model prog w) A (Builtin.SmallTypes.nextOf (.ref it)) Q E s := by
  obtain ⟨o, ho, hc, hd⟩ := id hit
  obtain ⟨ol, hol, _, nl, hdl⟩ := ht
  unfold Builtin.SmallTypes.nextOf
  refine wpAny_bind (wpAny_callSpecial?_slot (name := Str.ofString "__next__") hit.typeIs F.slot_tuple_iterator_next
    (wpAny_call_entry F.slot_tuple_iterator_next hit.typeIs F.entry_tuple_iterator_next ?_ (F.args_tuple_iterator_next_1 _)))
  show wpAny _ _ (field (.ref it) 0 >>= _) _ _ s
  refine wpAny_bind (wpAny_field ho hd (x := .ref t) rfl ?_)
  show wpAny _ _ (if (Value.ref t == Value.none) = true then _ else _) _ _ s
  rw [if_neg (show ¬ ((Value.ref t == Value.none) = true) from Bool.false_ne_true)]
  show wpAny _ _ (field (.ref it) 1 >>= _) _ _ s
  refine wpAny_bind (wpAny_field ho hd (x := .int i 0) rfl ?_)
  show wpAny _ _ (seqItems? (.ref t) >>= _) _ _ s
  refine wpAny_bind (wpAny_seqItems hol hdl ?_)
  simp only [Int.toNat_natCast, hx]
  repeat (first | refine wpAny_bind (wpAny_rule ?_) | refine wpAny_bind (wpAny_setField ho hd (by simp) ?_))
  show wpAny _ _ (newExc (.type "StopIteration") [] >>= _) _ _ _
  refine wpAny_bind ?_
  simp only [newExc, newTuple]
  refine wpAny_bind (wpAny_newObj_type ?_ (by size_fits))
  refine wpAny_bind (m := firstArgMember _ _) (wpAny_of_eq (a := Value.none) (by first | rfl | (simp only [firstArgMember]; rfl)) ?_)
  refine wpAny_newObj_type ?_ (by size_fits)
  simp only [raiseNew]
  refine wpAny_bind (wpAny_handled ?_)
  first | rw [show A.in1.handled = none from hh] | rw [hh]
  refine wpAny_bind (wpAny_pure (wpAny_throw ?_))
  exact hE _ _ (((Heap.SameBut.update ..).extBut.push _).push _) ⟨_, Heap.get?_push_size _ rfl, rfl⟩

theorem enumNew_tup (l : Addr) (items : Array Value) (n : Nat) (dct : Option Addr) (sl : Array (Option Value)) :
    Meets (Builtin.«enumerate.__new__» ⟨[.type "enumerate", .ref l], []⟩) (fun _ R s => s.heap.get? l = some { cls := .type "tuple", dict := dct, data := .seq items n, slots := sl } ∧
      R (.ok (.ret (.ref (s.heap.push { cls := .type "tuple_iterator", data := .fields #[.ref l, .int 0 0] }).objs.size)))
        { s with heap := (s.heap.push { cls := .type "tuple_iterator", data := .fields #[.ref l, .int 0 0] }).push { cls := .type "enumerate", data := .fields #[.none, .bool false, .ref s.heap.objs.size, rawInt 0, .none, .none] } }) :=
  .of_wp fun prog w A R s h => by
    obtain ⟨hp, g, d, tk, os⟩ := s; obtain ⟨hl, h⟩ := h
    have hsub := sub_enumerate
    have hL : Heap.IsTuple (Shared.heap ⟨hp, g, d, tk, os⟩) l items := ⟨_, hl, rfl, n, rfl⟩
    wp_walk using wpAny_loadPart' hl
    refine wpAny_stack_any fun st => wpAny_pure ?_
    split
    · rename_i c _ _ _ _ _
      cases (c == Value.type "enumerate")
      · wp_walk using wpAny_loadPart' hl, wpAny_pyIter_tuple hL
        exact ⟨_, rfl, h⟩
      · wp_walk using wpAny_loadPart' hl, wpAny_pyIter_tuple hL
        exact ⟨_, rfl, h⟩
    · wp_walk using wpAny_loadPart' hl, wpAny_pyIter_tuple hL
      exact ⟨_, rfl, h⟩

theorem enumCall_tup {l : Addr} {items : Array Value} {Q : Value → Shared → Prop} (hL : s.heap.IsTuple l items)
    (h : ∀ h', IsEnum h' (s.heap.objs.size + 1) s.heap.objs.size 0 .none → h'.IsTupleIter s.heap.objs.size l 0 → h'.objs.size = s.heap.objs.size + 2 → Keep s.heap h' → Q (.ref (s.heap.objs.size + 1)) { s with heap := h' }) :
    wpAny (model prog w) A (call (.type "enumerate") [.ref l]) Q E s := by
  obtain ⟨⟨c, dct, dt, sl⟩, hl, hc, n, hd⟩ := hL
  replace hc : c = .type "tuple" := hc
  replace hd : dt = .seq items n := hd
  subst hc hd
  refine callType_new F.called_enumerate (by decide) (F.typeCall_enumerate_1 _) (F.newCall_enumerate_1 _) (fun obj => F.args_object_init_2 obj _) F.entry_enumerate_new
    (enumNew_tup l items n dct sl) ⟨hl, ?_⟩
  have hz : (s.heap.push { cls := .type "tuple_iterator", data := .fields #[.ref l, .int 0 0] }).objs.size = s.heap.objs.size + 1 := Heap.size_push ..
  show _ ∧ _
  have he := Heap.get?_push_size (s.heap.push { cls := .type "tuple_iterator", data := .fields #[.ref l, .int 0 0] }) (o := { cls := .type "enumerate", data := .fields #[.none, .bool false, .ref s.heap.objs.size, rawInt 0, .none, .none] }) rfl
  rw [hz] at he ⊢
  exact ⟨⟨_, he, rfl⟩, h _ he ⟨_, Heap.get?_push_of_some _ (Heap.get?_push_size _ rfl), rfl, rfl⟩ (by rw [Heap.size_push, hz]) fun b o x => Heap.get?_push_of_some _ (Heap.get?_push_of_some _ x)⟩

/-- the enumerate's turn over an inner iterator of any kind: J is what the inner one keeps -/
theorem enumTurn {e it : Addr} {i : Nat} {x old : Value} {J : Heap → Prop} {Q : Option Value → Shared → Prop} (he : IsEnum s.heap e it i old) (hne : e ≠ it)
    (hin : ∀ (E' : Value → Shared → Prop) (Q' : Value → Shared → Prop), (∀ h', J h' → Heap.SameBut it s.heap h' → Q' x { s with heap := h' }) → wpAny (model prog w) A.in1 (Builtin.SmallTypes.nextOf (.ref it)) Q' E' s)
    (hJ : ∀ h h', J h → (∀ b o, b ≠ e → h.get? b = some o → h'.get? b = some o) → J h')
    (hQ : ∀ h', IsEnumOut h' e it ((i : Int) + 1) x s.heap.objs.size → J h' → h'.get? s.heap.objs.size = some { cls := .type "tuple", data := .seq #[.int i s.toks, x] } →
      (∀ b o, b ≠ e → b ≠ it → s.heap.get? b = some o → h'.get? b = some o) → Q (some (.ref s.heap.objs.size)) { s with heap := h', toks := s.toks + 1 }) :
    wpAny (model prog w) A (pyNext (.ref e)) Q E s := by
  have hT : s.TypeIs (.ref e) "enumerate" := ⟨_, he, rfl⟩
  have hel : e < s.heap.objs.size := Heap.lt_size he
  unfold pyNext
  refine wpAny_bind (wpAny_attempt (wpAny_callSpecial?_slot (name := Str.ofString "__next__") hT F.slot_enumerate_next (wpAny_call_entry F.slot_enumerate_next hT F.entry_enumerate_next ?_ (F.args_enumerate_next_1 _))))
  obtain ⟨hp, g, d, tk, os⟩ := s
  show wpAny _ _ (field (.ref e) 2 >>= _) _ _ _
  refine wpAny_bind (wpAny_field he rfl (x := .ref it) rfl (wpAny_bind (hin _ _ fun h₁ j₁ hs₁ => ?_)))
  replace hs₁ : Heap.SameBut it hp h₁ := hs₁
  have he₁ : IsEnum h₁ e it i old := (hs₁.2 e hne).trans he
  have k₁ : ∀ b o, b ≠ e → b ≠ it → hp.get? b = some o → h₁.get? b = some o := fun b o _ hb y => hs₁.extBut b o hb y
  have z₁ : h₁.objs.size = hp.objs.size := hs₁.1
  clear hs₁
  show wpAny _ _ (field (.ref e) 3 >>= _) _ _ ⟨h₁, g, d, tk, os⟩
  refine wpAny_bind (wpAny_field he₁ rfl (x := rawInt i) rfl ?_)
  show wpAny _ _ (field (.ref e) 4 >>= _) _ _ ⟨h₁, g, d, tk, os⟩
  refine wpAny_bind (wpAny_field he₁ rfl (x := .none) rfl ?_)
  show wpAny _ _ (mkInt i >>= _) _ _ ⟨h₁, g, d, tk, os⟩
  refine wpAny_bind (wpAny_mkInt ?_)
  show wpAny _ _ (setField (.ref e) 3 (rawInt ((i : Int) + 1)) >>= _) _ _ ⟨h₁, g, d, tk + 1, os⟩
  refine wpAny_bind (wpAny_setField_rec he₁ (by simp) fun h₂ he₂ hs₂ => ?_)
  replace hs₂ : Heap.SameBut e h₁ h₂ := hs₂
  replace he₂ : IsEnum h₂ e it ((i : Int) + 1) old := he₂
  have j₂ := hJ _ _ j₁ hs₂.extBut
  show wpAny _ _ (setField (.ref e) 4 .none >>= _) _ _ ⟨h₂, g, d, tk + 1, os⟩
  refine wpAny_bind (wpAny_setField_rec he₂ (by simp) fun h₃ he₃ hs₃ => ?_)
  replace hs₃ : Heap.SameBut e h₂ h₃ := hs₃
  replace he₃ : IsEnum h₃ e it ((i : Int) + 1) old := he₃
  have j₃ := hJ _ _ j₂ hs₃.extBut
  have z₃ : h₃.objs.size = hp.objs.size := by rw [hs₃.1, hs₂.1, z₁]
  have k₃ : ∀ b o, b ≠ e → b ≠ it → hp.get? b = some o → h₃.get? b = some o := fun b o q q' y => hs₃.extBut b o q (hs₂.extBut b o q (k₁ b o q q' y))
  clear hs₃ hs₂ he₂ he₁ j₁ j₂ k₁ z₁
  show wpAny _ _ (newTuple [.int i tk, x] >>= _) _ _ ⟨h₃, g, d, tk + 1, os⟩
  refine wpAny_bind (wpAny_newTuple ?_)
  have he₄ : IsEnum (h₃.push { cls := .type "tuple", data := .seq #[.int i tk, x] }) e it ((i : Int) + 1) old := Heap.get?_push_of_some _ he₃
  have ht₄ : (h₃.push { cls := .type "tuple", data := .seq #[.int i tk, x] }).get? hp.objs.size = some { cls := .type "tuple", data := .seq #[.int i tk, x] } := by rw [← z₃]; exact Heap.get?_push_size _ rfl
  have k₄ : ∀ b o, b ≠ e → b ≠ it → hp.get? b = some o → (h₃.push { cls := .type "tuple", data := .seq #[.int i tk, x] }).get? b = some o := fun b o q q' y => Heap.get?_push_of_some _ (k₃ b o q q' y)
  have j₄ : J (h₃.push { cls := .type "tuple", data := .seq #[.int i tk, x] }) := hJ _ _ j₃ fun b o _ y => Heap.get?_push_of_some _ y
  revert he₄ ht₄ k₄ j₄
  show _ → _ → _ → _ → wpAny _ _ (Builtin.SmallTypes.ownedTupleIsFree (.ref e) >>= _) _ _ ⟨_, g, d, tk + 1, os⟩
  dsimp only
  rw [z₃]
  generalize h₃.push { cls := .type "tuple", data := .seq #[.int i tk, x] } = h₄
  intro he₄ ht₄ k₄ j₄
  clear k₃ j₃ he₃ z₃ h₃ h₂ h₁
  have hne' : hp.objs.size ≠ e := Nat.ne_of_gt hel
  refine wpAny_bind ?_
  unfold Builtin.SmallTypes.ownedTupleIsFree
  refine wpAny_bind (wpAny_field he₄ rfl (x := .none) rfl (wpAny_pure ?_))
  simp only [if_true]
  refine wpAny_bind (wpAny_rule (wpAny_bind (wpAny_field he₄ rfl (x := old) rfl (wpAny_bind (wpAny_setField_rec he₄ (by simp) fun h₅ he₅ hs₅ => ?_)))))
  replace hs₅ : Heap.SameBut e h₄ h₅ := hs₅
  replace he₅ : IsEnum h₅ e it ((i : Int) + 1) x := he₅
  show wpAny _ _ (Builtin.SmallTypes.ownedTupleHandOut (.ref e) (.ref hp.objs.size) >>= _) _ _ ⟨h₅, g, d, tk + 1, os⟩
  refine wpAny_bind ?_
  unfold Builtin.SmallTypes.ownedTupleHandOut
  refine wpAny_bind (wpAny_setField_rec he₅ (by simp) fun h₆ he₆ hs₆ => ?_)
  replace hs₆ : Heap.SameBut e h₅ h₆ := hs₆
  replace he₆ : IsEnumOut h₆ e it ((i : Int) + 1) x hp.objs.size := he₆
  refine wpAny_setField_rec he₆ (by simp) fun h₇ he₇ hs₇ => ?_
  replace hs₇ : Heap.SameBut e h₆ h₇ := hs₇
  replace he₇ : IsEnumOut h₇ e it ((i : Int) + 1) x hp.objs.size := he₇
  have k₇ : ∀ b o, b ≠ e → h₄.get? b = some o → h₇.get? b = some o := fun b o q y => hs₇.extBut b o q (hs₆.extBut b o q (hs₅.extBut b o q y))
  exact wpAny_bind (wpAny_letGo (wpAny_pure ⟨_, rfl, wpAny_pure (hQ h₇ he₇ (hJ _ _ j₄ k₇) (k₇ _ _ hne' ht₄) fun b o q q' y => k₇ b o q (k₄ b o q q' y))⟩))

theorem enumDone {e it : Addr} {i : Int} {old : Value} {Q : Option Value → Shared → Prop} (he : IsEnum s.heap e it i old)
    (hin : ∀ (E' : Value → Shared → Prop) (Q' : Value → Shared → Prop), (∀ h' x, Heap.ExtBut it s.heap h' → (∃ o, h'.get? x = some o ∧ o.cls = .type "StopIteration") → E' (.ref x) { s with heap := h' }) → wpAny (model prog w) A.in1 (Builtin.SmallTypes.nextOf (.ref it)) Q' E' s)
    (hQ : ∀ h', Heap.ExtBut it s.heap h' → Q none { s with heap := h' }) : wpAny (model prog w) A (pyNext (.ref e)) Q E s := by
  have hT : s.TypeIs (.ref e) "enumerate" := ⟨_, he, rfl⟩
  unfold pyNext
  refine wpAny_bind (wpAny_attempt (wpAny_callSpecial?_slot (name := Str.ofString "__next__") hT F.slot_enumerate_next
    (wpAny_call_entry F.slot_enumerate_next hT F.entry_enumerate_next ?_ (F.args_enumerate_next_1 _))))
  show wpAny _ _ (field (.ref e) 2 >>= _) _ _ _
  refine wpAny_bind (wpAny_field he rfl (x := .ref it) rfl (wpAny_bind (hin _ _ fun h' x he' ⟨o, ho, hc⟩ => ?_)))
  exact wpAny_bind (wpAny_isInstance (T := "StopIteration") (b := true) ⟨o, ho, hc⟩ isSubtype_stop (wpAny_pure (hQ _ he')))

/-- an enumerate over a tuple, as turns -/
theorem enumTurns_tup {elts : List Expr} {k : Nat} {pos : Pos} (hh : A.handled = none) (e it l : Addr) (hei : e ≠ it) (hle : l ≠ e) (hli : l ≠ it) (items : Array Value) :
    KTurns prog w A (.Tuple elts k pos) e [e, it, l] [e, it] items.size
      (fun i v h => ∃ T t x, v = .ref T ∧ items[i]? = some x ∧ IsTup h T #[.int (i : Int) t, x])
      (fun i v h => ∃ T t x, v = .ref T ∧ items[i]? = some x ∧ IsTup h T #[.int (i : Int) t, x] ∧ IsEnumOut h e it ((i : Int) + 1) x T ∧ h.IsTupleIter it l (i + 1) ∧ h.IsTuple l items ∧ T ≠ e)
      (fun i h => (∃ old, IsEnum h e it (i : Int) old) ∧ h.IsTupleIter it l i ∧ h.IsTuple l items) where
  sub := fun b hb => by
    rcases List.mem_cons.mp hb with rfl | hb
    · exact List.mem_cons_self
    · rw [List.mem_singleton.mp hb]; exact List.mem_cons_of_mem _ List.mem_cons_self
  frame := fun i h h' ⟨⟨old, he⟩, ⟨o, ho, r⟩, ⟨o', ho', r'⟩⟩ hk => ⟨⟨old, hk e (by simp) _ he⟩, ⟨o, hk it (by simp) _ ho, r⟩, ⟨o', hk l (by simp) _ ho', r'⟩⟩
  item := fun i s Q E hi ⟨⟨old, he⟩, hit, hl⟩ hQ => by
    have hlt : l < s.heap.objs.size := by obtain ⟨_, q, _⟩ := hl; exact Heap.lt_size q
    refine enumTurn (x := items[i]) (J := fun h => h.IsTupleIter it l (i + 1) ∧ h.IsTuple l items) he hei
      (fun E' Q' hq => nextOf_tup hit hl (by simp [hi]) fun h' a b => hq h' ⟨a, hl.extBut b.extBut hli⟩ b)
      (fun h h' ⟨⟨o, ho, r⟩, ⟨o', ho', r'⟩⟩ hk => ⟨⟨o, hk it o (Ne.symm hei) ho, r⟩, ⟨o', hk l o' hle ho', r'⟩⟩) fun h' a b c d => ?_
    refine hQ _ h' _ ⟨s.heap.objs.size, s.toks, items[i], rfl, by simp [hi], ⟨_, c, rfl, _, rfl⟩, a, b.1, b.2, Nat.ne_of_gt (Heap.lt_size he)⟩ fun q o hq y => d q o (fun z => hq (by simp [z])) (fun z => hq (by simp [z])) y
  go := fun i v s Q E ⟨T, t, x, hv, hx, hT, he, hit, hl, hTe⟩ hQ => by
    subst hv
    refine wpAny_letOwnedTupleGo_enum he fun h' he' hs' => ?_
    refine hQ h' ⟨T, t, x, rfl, hx, hT.extBut hs'.extBut hTe⟩ ⟨⟨x, by simpa using he'⟩, hit.extBut hs'.extBut (Ne.symm hei), hl.extBut hs'.extBut hle⟩ fun b o hb y => hs'.extBut b o (fun z => hb (by simp [z])) y
  done := fun s Q E ⟨⟨old, he⟩, hit, hl⟩ hQ => enumDone he (fun E' Q' hq => nextOf_tup_end hh hit hl (by simp) hq) fun h' he' => hQ h' s.toks fun b o hb y => he' b o (fun z => hb (by simp [z])) y
end

section
variable {F : Fx} {σ : Ix} {s : Shared}
/-- the pairs of an enumerate -/
noncomputable def enumD (l : List Dt) : List Dt := l.zipIdx.map fun p => .tup [.int (p.2 : Int), p.1]
theorem enumD_len (l : List Dt) : (enumD l).length = l.length := by simp [enumD]
theorem enumD_get {l : List Dt} {i : Nat} {d : Dt} (h : (enumD l)[i]? = some d) : ∃ e, l[i]? = some e ∧ d = .tup [.int (i : Int), e] := by
  simp only [enumD, List.getElem?_map, List.getElem?_zipIdx, Option.map_map] at h
  obtain ⟨e, he, rfl⟩ := Option.map_eq_some_iff.mp h
  exact ⟨e, he, by simp⟩

theorem Src.enumT {elts : List Expr} {k : Nat} {tp : Pos} {e : Expr} {l : List Dt} {p pos : Pos} (hr : F.A.handled = none) (hk : F.env.kindOf "enumerate" = some .globalImplicit) (he : Ex F σ e (.tup l))
    (hse : ∀ env, backTo pos (starEach [e] env) = [(false, eval e env)] := by intro _; rfl) :
    Src F σ (.Tuple elts k tp) (.Call (.Name "enumerate" p) [e] [] pos) (enumD l) := fun s S => by
  refine wpAny_Call_NameR (ldB S hk (by decide +kernel) PyProof.Rows.boot_enumerate ?_)
  rw [hse]
  refine PySem.callWith_type rfl (Calls.evalArgs_plain (Calls.spliced_cons (wpAny_mono (he s S) (fun nv s₁ ⟨k1, r1⟩ => Calls.spliced_nil ?_) fun _ _ e => e)))
  obtain ⟨a, items, rfl, hl, hr'⟩ := r1.toTup
  have hl' : s₁.heap.IsTuple a items := hl
  have hlt : a < s₁.heap.objs.size := hl.lt
  have hn : items.size = (enumD l).length := by have := hr'.length; rw [enumD_len]; simpa using this
  refine enumCall_tup hl' fun h' hE hI hsz hk' => ?_
  refine wpAny_pyIter_enum hE ?_
  have kp : Kp s₁ { s₁ with heap := h' } := ⟨h', s₁.toks, rfl, hk'⟩
  refine ⟨k1.trans kp, s₁.heap.objs.size + 1, _, _, _, _, _, rfl, fun b hb => ?_, ⟨hn ▸ enumTurns_tup hr (s₁.heap.objs.size + 1) s₁.heap.objs.size a (Nat.succ_ne_self _) (Nat.ne_of_lt (Nat.lt_succ_of_lt hlt)) (Nat.ne_of_lt hlt) items,
    fun i s Q ⟨⟨old, q⟩, _⟩ z => wpAny_pyIter_enum q z, ⟨⟨.none, hE⟩, hI, let ⟨o, ho, r⟩ := hl; ⟨o, hk' _ _ ho, r⟩⟩, fun i h st b hb => ?_, fun b hb => ?_, fun Y hY i v h d hdi hP kr => ?_⟩⟩
  · rcases List.mem_cons.mp hb with rfl | hb
    · exact get_none k1.k (Nat.le_succ _)
    · rw [List.mem_singleton.mp hb]; exact get_none k1.k (Nat.le_refl _)
  · obtain ⟨⟨old, q⟩, ⟨o, ho, hc, _⟩, _⟩ := st
    rcases List.mem_cons.mp hb with rfl | hb
    · exact ⟨_, q, NoRd.of (T := "enumerate") rfl (by decide)⟩
    · rw [List.mem_singleton.mp hb]; exact ⟨o, ho, NoRd.of hc (by decide)⟩
  · rcases List.mem_cons.mp hb with rfl | hb
    · exact .inl List.mem_cons_self
    · rcases List.mem_cons.mp hb with rfl | hb
      · exact .inl (List.mem_cons_of_mem _ List.mem_cons_self)
      · rw [List.mem_singleton.mp hb]
        obtain ⟨o, ho, hc, n, hd⟩ := hl
        exact .inr ⟨o, hk' _ _ ho, .inr ⟨hc, _, n, hd⟩⟩
  · obtain ⟨T, t, x, rfl, hx, hT⟩ := hP
    obtain ⟨e', he', rfl⟩ := enumD_get hdi
    obtain ⟨v', hv', rv⟩ := RdL.get hr' he'
    have : v' = x := by
      have q : items.toList[i]? = some x := by simpa using hx
      rw [hv'] at q; exact Option.some.inj q
    subst this
    refine Rd.tup hT ?_
    simp only [RdL]
    exact ⟨_, _, rfl, Rd.int, _, _, rfl, ((rv.keep hk').sub hY).keepR kr, rfl⟩

theorem Src.enumL {elts : List Expr} {k : Nat} {tp : Pos} {e : Expr} {l : List Dt} {p pos : Pos} (hr : F.A.handled = none) (hk : F.env.kindOf "enumerate" = some .globalImplicit) (he : Ex F σ e (.list l))
    (hse : ∀ env, backTo pos (starEach [e] env) = [(false, eval e env)] := by intro _; rfl) :
    Src F σ (.Tuple elts k tp) (.Call (.Name "enumerate" p) [e] [] pos) (enumD l) := fun s S => by
  refine wpAny_Call_NameR (ldB S hk (by decide +kernel) PyProof.Rows.boot_enumerate ?_)
  rw [hse]
  refine PySem.callWith_type rfl (Calls.evalArgs_plain (Calls.spliced_cons (wpAny_mono (he s S) (fun nv s₁ ⟨k1, r1⟩ => Calls.spliced_nil ?_) fun _ _ e => e)))
  obtain ⟨a, items, rfl, hX, hl, hr'⟩ := r1.toList
  have hlt : a < s₁.heap.objs.size := by obtain ⟨_, e, _⟩ := hl; exact Heap.lt_size e
  have hn : items.size = (enumD l).length := by have := hr'.length; rw [enumD_len]; simpa using this
  refine call_enumerate_list hl fun h' hE hI hsz hk' => ?_
  refine wpAny_pyIter_enum hE ?_
  have kp : Kp s₁ { s₁ with heap := h' } := ⟨h', s₁.toks, rfl, hk'⟩
  have W := KTurns.ofWalksU (elts := elts) (k := k) (pos := tp) (WalksT.enumerate (prog := F.prog) (w := F.w) hr (s₁.heap.objs.size + 1) s₁.heap.objs.size a (Nat.succ_ne_self _) (Nat.ne_of_lt (Nat.lt_succ_of_lt hlt)) (Nat.ne_of_lt hlt) items).toU
  refine ⟨k1.trans kp, s₁.heap.objs.size + 1, _, _, _, _, _, rfl, fun b hb => ?_, ⟨hn ▸ W,
    fun i s Q ⟨⟨old, q⟩, _⟩ z => wpAny_pyIter_enum q z, ⟨⟨.none, hE⟩, hI, let ⟨o, ho, r⟩ := hl; ⟨o, hk' _ _ ho, r⟩⟩, fun i h st b hb => ?_, fun b hb => ?_, fun Y hY i v h d hdi hP kr => ?_⟩⟩
  · rcases List.mem_cons.mp hb with rfl | hb
    · exact get_none k1.k (Nat.le_succ _)
    · rw [List.mem_singleton.mp hb]; exact get_none k1.k (Nat.le_refl _)
  · obtain ⟨⟨old, q⟩, ⟨o, ho, hc, _⟩, _⟩ := st
    rcases List.mem_cons.mp hb with rfl | hb
    · exact ⟨_, q, NoRd.of (T := "enumerate") rfl (by decide)⟩
    · rw [List.mem_singleton.mp hb]; exact ⟨o, ho, NoRd.of hc (by decide)⟩
  · rcases List.mem_cons.mp hb with rfl | hb
    · exact .inl List.mem_cons_self
    · rcases List.mem_cons.mp hb with rfl | hb
      · exact .inl (List.mem_cons_of_mem _ List.mem_cons_self)
      · rw [List.mem_singleton.mp hb]
        obtain ⟨o, ho, _⟩ := hl
        exact .inr ⟨o, hk' _ _ ho, .inl hX⟩
  · obtain ⟨T, vals, rfl, ⟨t, x, hx, rfl⟩, hT⟩ := hP
    obtain ⟨e', he', rfl⟩ := enumD_get hdi
    obtain ⟨v', hv', rv⟩ := RdL.get hr' he'
    have : v' = x := by
      have q : items.toList[i]? = some x := by simpa using hx
      rw [hv'] at q; exact Option.some.inj q
    subst this
    refine Rd.tup (show IsTup h T _ from hT) ?_
    simp only [RdL]
    exact ⟨_, _, rfl, Rd.int, _, _, rfl, ((rv.keep hk').sub hY).keepR kr, rfl⟩
end
end Mine
end

section
open PySem PySem.W PyProof.Rows PySem.Calls
set_option autoImplicit false
set_option maxRecDepth 100000
namespace Mine

section
variable {prog : Program} {w : World} {A : Around} {s : Shared}

noncomputable abbrev okTests (ifs : List Expr) (env : Env) : Sem Bool := forIn ifs true fun c r => if r = true then do let ok ← isTrue c env (eval c env); pure (ForInStep.yield ok) else pure (ForInStep.yield r)

/-- a comprehension's turns: one clause, whatever is handed on -/
theorem compLoopG {e target : Expr} {ifs : List Expr} {ipos : Pos} {emit : Sem Unit} {it acc : Value} {env : Env} {R : Result → Shared → Prop} (I : Nat → Shared → Prop)
    (hturn : compTurn e 0 it acc env = (do
      standAt ipos
      match ← pyNext it with
      | none => pure (.done .next)
      | some v =>
        letOwnedTupleGo target it v
        assign target env v
        let mut ok := true
        for c in ifs do
          if ok then ok ← isTrue c env (eval c env)
        if ok then
          emit
        again (.compLoop e 0 it acc env)))
    (hden : denote table (.compLoop e 0 it acc env) = (compTurn e 0 it acc env).onRaise (fun x => do noteFrame x env; theTreesLotGoes x))
    (hq : (Code.compLoop e 0 it acc env).quiet = true) (hun : A.under (.compLoop e 0 it acc env) = A)
    (turn : ∀ n s, I n s → wpAny (model prog w) A (pyNext it) (fun r s₁ => match r with
      | none => R (.ok .next) s₁
      | some v => wpAny (model prog w) A (letOwnedTupleGo target it v) (fun _ s₁' => wpAny (model prog w) A (assign target env v) (fun _ s₂ =>
          wpAny (model prog w) A (okTests ifs env) (fun ok s₃ =>
            if ok = true then wpAny (model prog w) A emit (fun _ s₅ => ∃ m, m < n ∧ I m s₅) NoE s₃ else ∃ m, m < n ∧ I m s₃) NoE s₂) NoE s₁') NoE s₁) NoE s)
    (n : Nat) (h : I n s) : codeAny (model prog w) A (.compLoop e 0 it acc env) R s := by
  refine codeAny_loop hq I (fun n s hI => ?_) n h
  rw [hun]
  show wpAny _ A (denote table (.compLoop e 0 it acc env)) _ _ s
  rw [hden]
  refine wpAny_noted ?_
  rw [hturn]
  refine wpAny_bind (wpAny_standAt (wpAny_bind (wpAny_mono (turn n s hI) (fun r s₁ h₁ => ?_) fun _ _ h' => h'.elim)))
  cases r with
  | none => exact wpAny_pure h₁
  | some v =>
    refine wpAny_bind (wpAny_mono h₁ (fun _ s₁' h₁' => ?_) fun _ _ h' => h'.elim)
    refine wpAny_bind (wpAny_mono h₁' (fun _ s₂ h₂ => wpAny_bind (wpAny_mono h₂ (fun ok s₃ h₃ => ?_) fun _ _ h' => h'.elim)) fun _ _ h' => h'.elim)
    cases ok with
    | false => exact wpAny_pure ⟨rfl, h₃⟩
    | true => exact wpAny_bind (wpAny_mono h₃ (fun _ s₅ h₅ => wpAny_pure ⟨rfl, h₅⟩) fun _ _ h' => h'.elim)
end

/-- the cells that a comprehension's free names stand for -/
noncomputable def clOf (env : Env) : List (Str × NameKind) → List (Str × Addr) → List (Str × Addr)
  | [], acc => acc
  | (n, k) :: r, acc => if k == .free then clOf env r ((n, (env.cells.lookup n).getD 0) :: acc) else clOf env r acc
theorem closure_ok {env : Env} (scope : Scope) (h : ∀ p ∈ scope.names, p.2 = .free → (env.cells.lookup p.1).isSome = true) : closureFor scope env = pure (clOf env scope.names []) := by
  unfold closureFor
  generalize scope.names = names at h
  have : ∀ (names : List (Str × NameKind)) (acc : List (Str × Addr)), (∀ p ∈ names, p.2 = .free → (env.cells.lookup p.1).isSome = true) →
      (forIn names acc fun x r => (do if x.2 == NameKind.free then (do let a ← cellOf env x.1; pure (ForInStep.yield ((x.1, a) :: r))) else pure (ForInStep.yield r) : Sem _)) = pure (clOf env names acc) := by
    intro names
    induction names with
    | nil => intro acc _; rfl
    | cons p r ih =>
      intro acc h
      obtain ⟨n, k⟩ := p
      rw [List.forIn_cons]
      by_cases hk : k = .free
      · subst hk
        obtain ⟨c, hc⟩ := Option.isSome_iff_exists.mp (h (n, .free) List.mem_cons_self rfl)
        have hc' : env.cells.lookup n = some c := hc
        simp only [beq_self_eq_true, if_true, cellOf, hc', clOf, Option.getD_some]
        exact ih _ fun p hp => h p (List.mem_cons_of_mem _ hp)
      · have : (k == NameKind.free) = false := beq_false_of_ne hk
        simp only [this, Bool.false_eq_true, if_false, clOf]
        exact ih _ fun p hp => h p (List.mem_cons_of_mem _ hp)
  exact (congrArg (· >>= pure) (this names [] h)).trans rfl

theorem clOf_lookup {env : Env} : ∀ (names : List (Str × NameKind)) (acc : List (Str × Addr)) (x : Str) (c : Addr), (∀ p ∈ names, p.2 = .free → (env.cells.lookup p.1).isSome = true) →
    (clOf env names acc).lookup x = some c → (acc.lookup x = some c) ∨ env.cells.lookup x = some c
  | [], acc, x, c, _, h => .inl h
  | (n, k) :: r, acc, x, c, hf, h => by
    unfold clOf at h
    by_cases hk : k = .free
    · subst hk
      obtain ⟨d, hd⟩ := Option.isSome_iff_exists.mp (hf (n, .free) List.mem_cons_self rfl)
      have hd' : env.cells.lookup n = some d := hd
      rw [if_pos (beq_self_eq_true _), hd'] at h
      rcases clOf_lookup r _ x c (fun p hp => hf p (List.mem_cons_of_mem _ hp)) h with q | q
      · rw [List.lookup_cons] at q
        by_cases hx : x = n
        · subst hx; rw [beq_self_eq_true] at q; cases q; exact .inr hd'
        · rw [beq_false_of_ne hx] at q; exact .inl q
      · exact .inr q
    · rw [if_neg (by rw [beq_false_of_ne hk]; exact Bool.false_ne_true)] at h
      exact clOf_lookup r _ x c (fun p hp => hf p (List.mem_cons_of_mem _ hp)) h
theorem clOf_some {env : Env} : ∀ (names : List (Str × NameKind)) (acc : List (Str × Addr)) (x : Str), (∀ p ∈ names, p.2 = .free → (env.cells.lookup p.1).isSome = true) →
    ((x, NameKind.free) ∈ names ∨ acc.lookup x = env.cells.lookup x) → (clOf env names acc).lookup x = env.cells.lookup x
  | [], acc, x, _, h => h.elim (fun h => by cases h) id
  | (n, k) :: r, acc, x, hf, h => by
    have hf' := fun p hp => hf p (List.mem_cons_of_mem _ hp)
    unfold clOf
    by_cases hk : k = .free
    · subst hk
      obtain ⟨d, hd⟩ := Option.isSome_iff_exists.mp (hf (n, .free) List.mem_cons_self rfl)
      have hd' : env.cells.lookup n = some d := hd
      rw [if_pos (beq_self_eq_true _), hd']
      refine clOf_some r _ x hf' ?_
      by_cases hx : x = n
      · subst hx; exact .inr (by rw [List.lookup_cons, beq_self_eq_true, hd']; rfl)
      · rcases h with h | h
        · rcases List.mem_cons.mp h with e | h
          · cases e; exact absurd rfl hx
          · exact .inl h
        · exact .inr (by rw [List.lookup_cons, beq_false_of_ne hx]; exact h)
    · rw [if_neg (by rw [beq_false_of_ne hk]; exact Bool.false_ne_true)]
      refine clOf_some r _ x hf' (h.imp (fun h => ?_) id)
      rcases List.mem_cons.mp h with e | h
      · cases e; exact absurd rfl hk
      · exact h

theorem relabel_free {env : Env} (hf : env.scope.kind = .function) : ∀ {names : List (Str × NameKind)} {x : Str}, names.lookup x = some .free → env.kindOf x = some .cell →
    (names.map fun (n, k) => if (k == NameKind.free && env.scope.kind == .function && env.kindOf n == some .cell) then (n, NameKind.cell) else (n, k)).lookup x = some .cell
  | [], _, h, _ => by cases h
  | (n, k) :: r, x, h, hc => by
    rw [List.lookup_cons] at h
    by_cases hx : x = n
    · subst hx
      rw [beq_self_eq_true] at h
      cases h
      simp [hf, hc]
    · rw [beq_false_of_ne hx] at h
      have ih := relabel_free hf h hc
      show List.lookup x ((if (k == NameKind.free && env.scope.kind == .function && env.kindOf n == some .cell) = true then (n, NameKind.cell) else (n, k)) :: _) = _
      split <;> (rw [List.lookup_cons, beq_false_of_ne hx]; exact ih)
theorem relabel_other {env : Env} {kd : NameKind} (hkd : kd ≠ .free) : ∀ {names : List (Str × NameKind)} {x : Str}, names.lookup x = some kd →
    (names.map fun (n, k) => if (k == NameKind.free && env.scope.kind == .function && env.kindOf n == some .cell) then (n, NameKind.cell) else (n, k)).lookup x = some kd
  | [], _, h => by cases h
  | (n, k) :: r, x, h => by
    rw [List.lookup_cons] at h
    by_cases hx : x = n
    · subst hx
      rw [beq_self_eq_true] at h
      cases h
      rw [List.map_cons]
      simp [beq_false_of_ne hkd]
    · rw [beq_false_of_ne hx] at h
      have ih := relabel_other (env := env) hkd h
      show List.lookup x ((if (k == NameKind.free && env.scope.kind == .function && env.kindOf n == some .cell) = true then (n, NameKind.cell) else (n, k)) :: _) = _
      split <;> (rw [List.lookup_cons, beq_false_of_ne hx]; exact ih)

end Mine
end

section
open PySem PySem.W PyProof.Rows PySem.Calls
set_option autoImplicit false
set_option maxRecDepth 100000
namespace Mine

noncomputable def cF (F : Fx) (scope : Scope) (C : Addr) : Fx := { F with env := compEnvC scope (clOf F.env scope.names []) C F.env }

/-- what a comprehension's scope must be like -/
structure CompOk (F : Fx) (scope : Scope) : Prop where
  kind : scope.kind = .function
  nocell : ∀ y ∈ scope.names, y.2 ≠ .cell
  locals : ∀ y ∈ scope.names, y.2 = .local → scope.names.lookup y.1 = some .local
  free : ∀ p ∈ scope.names, p.2 = .free → F.env.kindOf p.1 = some .cell ∧ (F.env.cells.lookup p.1).isSome = true

theorem CompOk.of {F : Fx} {names : List (Str × NameKind)} {scope : Scope} (h : KOfF F.env names)
    (hc : (scope.kind == .function && scope.names.all fun y => y.2 != .cell && (y.2 != .local || scope.names.lookup y.1 == some .local) && (y.2 != .free || names.lookup y.1 == some .cell)) = true) : CompOk F scope := by
  simp only [Bool.and_eq_true, beq_iff_eq, List.all_eq_true, Bool.or_eq_true, bne_iff_ne, ne_eq] at hc
  obtain ⟨h1, h2⟩ := hc
  refine ⟨h1, fun y hy => (h2 y hy).1.1, fun y hy hl => ?_, fun y hy hf => ?_⟩
  · rcases (h2 y hy).1.2 with q | q
    · exact absurd hl q
    · exact q
  · rcases (h2 y hy).2 with q | q
    · exact absurd hf q
    · exact ⟨(h.k _).trans q, h.c _ q⟩

/-- the frame of a comprehension's turn: what its rules ask -/
structure InComp (F' : Fx) (names : List (Str × NameKind)) : Prop where
  kof : KOf F'.env names
  loc : ∀ x, names.lookup x = some .local → F'.env.kindOf x = some .local

theorem inComp (F : Fx) (scope : Scope) (C : Addr) : InComp (cF F scope C) scope.names :=
  ⟨⟨fun _ hx => relabel_other (by decide) hx⟩, fun _ hx => relabel_other (by decide) hx⟩

noncomputable def TsOk (F : Fx) (σ : Ix) (ifs : List Expr) (b : Bool) : Prop := ∀ s, St F σ s → wpAny (model F.prog F.w) F.A (okTests ifs F.env) (fun v s' => Kp s s' ∧ v = b) NoE s
theorem TsOk.nil {F : Fx} {σ : Ix} : TsOk F σ [] true := fun s _ => wpAny_tests_nil ⟨Kp.refl s, rfl⟩
theorem TsOk.one {F : Fx} {σ : Ix} {c : Expr} {b : Bool} (h : Tx F σ c b) : TsOk F σ [c] b := fun s S => wpAny_tests_one (h s S)

noncomputable def Em (F : Fx) (σ : Ix) (emit : Sem Unit) (D : Addr) (d d' : Dt) : Prop := ∀ s, St F σ s → σ.X D → RdC F.prog F.w σ.X s.heap d (.ref D) →
  wpAny (model F.prog F.w) F.A emit (fun _ s' => (∃ h' tk, s' = { s with heap := h', toks := tk }) ∧ RdC F.prog F.w σ.X s'.heap d' (.ref D) ∧ (∃ o, s'.heap.get? D = some o) ∧ ∀ b o, b ≠ D → s.heap.get? b = some o → s'.heap.get? b = some o) NoE s

noncomputable def IsCon (d : Dt) : Prop := (∃ l, d = .list l) ∨ (∃ l, d = .plist l) ∨ ∃ l, d = .dict l
theorem IsCon.l {l : List Dt} : IsCon (.list l) := .inl ⟨_, rfl⟩
theorem IsCon.p {l : List Dt} : IsCon (.plist l) := .inr (.inl ⟨_, rfl⟩)
theorem IsCon.d {l : List (List Int × Dt)} : IsCon (.dict l) := .inr (.inr ⟨_, rfl⟩)
theorem RdC.notT {prog : Program} {w : World} {X : Addr → Prop} {h : Heap} {d : Dt} {a : Addr} (r : RdC prog w X h d (.ref a)) (hd : IsCon d) : ∃ o, h.get? a = some o ∧ ¬ IsT o := by
  rcases hd with ⟨l, rfl⟩ | ⟨l, rfl⟩ | ⟨l, rfl⟩
  · obtain ⟨a', items, e, ⟨o, ho, hc, _⟩, _⟩ := r
    cases e
    exact ⟨o, ho, fun q => by have := q.1; rw [hc] at this; injection this with z; exact absurd z (by decide)⟩
  · obtain ⟨a', items, e, ⟨n, ho⟩, _⟩ := r
    cases e
    exact ⟨_, ho, fun q => by have := q.1; injection this with z; exact absurd z (by decide)⟩
  · obtain ⟨a', xs, e, _, ⟨o, es, ep, ho, hc, _⟩, _⟩ := r
    cases e
    exact ⟨o, ho, fun q => by have := q.1; rw [hc.1] at this; injection this with z; exact absurd z (by decide)⟩

section
variable {F : Fx} {σ : Ix} {s : Shared}

/-- the turn's frame out of the frame around -/
theorem St.comp {scope : Scope} {C : Addr} {X : Addr → Prop} {Γ₀ : List (Str × Option Dt)} (S : St F ⟨X, σ.Γ, σ.Ω⟩ s) (ok : CompOk F scope) (hC : ∃ m, s.heap.Ns C m) (hXC : X C) (hCN : F.s₀.heap.objs.size ≤ C)
    (hcc : ∀ x c, F.env.cells.lookup x = some c → c ≠ C) (hnd : (Γ₀.map (·.1)).Nodup) (hΓ : ∀ y d, (y, some d) ∈ Γ₀ → (y, some d) ∈ σ.Γ ∧ (y, NameKind.free) ∈ scope.names ∧ scope.names.lookup y = some .free) : St (cF F scope C) ⟨X, Γ₀, []⟩ s := by
  have hf : ∀ p ∈ scope.names, p.2 = .free → (F.env.cells.lookup p.1).isSome = true := fun p hp hq => (ok.free p hp hq).2
  have hcl : ∀ x c, (clOf F.env scope.names []).lookup x = some c → F.env.cells.lookup x = some c := fun x c e => (clOf_lookup _ _ _ _ hf e).elim (fun q => by cases q) id
  exact {
    sh := S.sh
    keep := S.keep
    sta := S.sta
    base := S.base
    basein := S.basein
    kind := ok.kind
    globals := S.globals
    builtins := S.builtins
    loc := hC
    locX := hXC
    locN := hCN
    cells := fun x c e => let ⟨a, b, q, _⟩ := S.cells x c (hcl x c e); ⟨a, b, q, hcc x c (hcl x c e)⟩
    apart := fun x y c e e' => S.apart x y c (hcl x c e) (hcl y c e')
    xin := S.xin
    xc := S.xc
    xclt := S.xclt
    names := hnd
    vals := fun y d hy => by
      obtain ⟨h1, h2, h3⟩ := hΓ y d hy
      obtain ⟨v, H, r⟩ := S.vals y d h1
      have hk := (ok.free _ h2 rfl).1
      refine ⟨v, ⟨H.1, ?_⟩, r⟩
      rcases H.2 with ⟨a, _⟩ | ⟨_, c, hc, hv⟩
      · rw [hk] at a; cases a
      · exact .inr ⟨.inl (relabel_free S.kind h3 hk), c, (clOf_some _ _ _ hf (.inl h2)).trans hc, hv⟩
    own := fun p hp => by cases hp }

theorem comp_core {α : Type} {e target : Expr} {ifs : List Expr} {ipos : Pos} {scope : Scope} {emit : Addr → Env → Sem Unit} {newAcc : Sem Value} {accO : Obj} {s₂ : Shared} {I : Addr} {fp wr : List Addr} {items : List Dt} {P Md : Nat → Value → Heap → Prop} {Sti : Nat → Heap → Prop}
    {RR : Value → Addr → Result → Shared → Prop} (xs : List α) (φ : α → Dt) (ac : List α → Dt) (p : α → Bool) (Γ₀ : List (Str × Option Dt))
    (hturn : ∀ it D env, compTurn e 0 it (.ref D) env = (do
      standAt ipos
      match ← pyNext it with
      | none => pure (.done .next)
      | some v =>
        letOwnedTupleGo target it v
        assign target env v
        let mut ok := true
        for c in ifs do
          if ok then ok ← isTrue c env (eval c env)
        if ok then
          emit D env
        again (.compLoop e 0 it (.ref D) env)))
    (hden : ∀ it acc env, denote table (.compLoop e 0 it acc env) = (compTurn e 0 it acc env).onRaise (fun x => do noteFrame x env; theTreesLotGoes x))
    (hq : ∀ it acc env, (Code.compLoop e 0 it acc env).quiet = true) (hun : ∀ A it acc env, Around.under A (.compLoop e 0 it acc env) = A)
    (hstart : ∀ (it acc : Value) (env : Env) (R : Result → Shared → Prop) (s : Shared), codeAny (model F.prog F.w) F.A (.compLoop e 0 it acc env) R s →
      wpAny (model F.prog F.w) F.A (pyIter it) (fun it' s' => codeAny (model F.prog F.w) F.A (.compLoop e 0 it' acc env) R s') NoE s → codeAny (model F.prog F.w) F.A (.compStart e 0 it acc env) R s)
    (hnew : ∀ (s : Shared) (Q : Value → Shared → Prop), Q (.ref s.heap.objs.size) { s with heap := s.heap.push accO } → wpAny (model F.prog F.w) F.A newAcc Q NoE s)
    (hfreed : accO.isFreed = false) (hac0 : ∀ (h : Heap) (X : Addr → Prop), 2 < h.objs.size → RdC F.prog F.w X (h.push accO) (ac []) (.ref h.objs.size))
    (hacC : ∀ pre, IsCon (ac pre))
    (hφ : items = xs.map φ) (S₂ : St F σ s₂) (W : Wk F.prog F.w F.A target σ.X s₂.heap I fp wr items P Md Sti) (ok : CompOk F scope)
    (hwX : ∀ b ∈ wr, ¬ σ.X b) (hw0 : ∀ b ∈ wr, ∀ o, ¬ F.W b → F.s₀.heap.get? b ≠ some o) (hwb : ∀ b ∈ wr, F.base.get? b = none)
    (hsz : 2 < s₂.heap.objs.size) (hs0 : F.s₀.heap.objs.size ≤ s₂.heap.objs.size)
    (hnd : (Γ₀.map (·.1)).Nodup) (hΓ : ∀ y d, (y, some d) ∈ Γ₀ → (y, some d) ∈ σ.Γ ∧ (y, NameKind.free) ∈ scope.names ∧ scope.names.lookup y = some .free)
    (hel : ∀ pre x post, xs = pre ++ x :: post → ∀ C X D, InComp (cF F scope C) scope.names → ∃ Γ₁, TgL (cF F scope C) [] target (φ x) Γ₀ Γ₁ ∧ TsOk (cF F scope C) ⟨X, Γ₁, []⟩ ifs (p x) ∧
      (p x = true → Em (cF F scope C) ⟨X, Γ₁, []⟩ (emit D (cF F scope C).env) D (ac pre) (ac (pre ++ [x]))) ∧ (p x = false → ac (pre ++ [x]) = ac pre))
    (hRR : ∀ D C h tk, St F ⟨fun a => σ.X a ∨ a = C ∨ a = D, σ.Γ, σ.Ω⟩ { s₂ with heap := h, toks := tk } → RdC F.prog F.w (fun a => σ.X a ∨ a = C ∨ a = D) h (ac xs) (.ref D) → (∃ m, h.Ns C m) → s₂.heap.objs.size ≤ D → s₂.heap.objs.size ≤ C → C ≠ D →
      (∀ b o, b ∉ wr → s₂.heap.get? b = some o → h.get? b = some o) → RR (.ref D) C (.ok .next) { s₂ with heap := h, toks := tk }) :
    wpAny (model F.prog F.w) F.A newAcc (fun acc s₃ => wpAny (model F.prog F.w) F.A (newFunctionEnv scope F.env.globals (clOf F.env scope.names []) [] F.env.qual none .none (some F.env)) (fun cenv s₄ =>
      codeAny (model F.prog F.w) F.A (.compStart e 0 (.ref I) acc { cenv with scope := relabel scope F.env }) (RR acc cenv.locals) s₄) NoE s₃) NoE s₂ := by
  refine hnew _ _ (wpAny_newFunctionEnv ok.nocell (by intro y hy; simp at hy) (fun h₁ hns₁ hsb₁ => ?_) ok.kind)
  dsimp only at hns₁ hsb₁ ⊢
  have hsizeH : (s₂.heap.push accO).objs.size = s₂.heap.objs.size + 1 := Heap.size_push ..
  generalize hD : s₂.heap.objs.size = D at *
  generalize hCe : (s₂.heap.push accO).objs.size = C at *
  subst hCe
  have hDC : D ≠ (s₂.heap.push accO).objs.size := by rw [hsizeH]; exact Nat.ne_of_lt (Nat.lt_succ_self _)
  generalize hCe : (s₂.heap.push accO).objs.size = C at *
  have hDlt : D < C := by rw [hsizeH]; exact Nat.lt_succ_self _
  have lt₂ : ∀ {b o}, s₂.heap.get? b = some o → b < D := fun e => by rw [← hD]; exact Heap.lt_size e
  have old : Keep s₂.heap h₁ := fun b o e => hsb₁.extBut b o (Nat.ne_of_lt (Nat.lt_trans (lt₂ e) hDlt)) (Heap.get?_push_of_some _ (Heap.get?_push_of_some _ e))
  have accAt : h₁.get? D = some accO := hsb₁.extBut _ _ hDC (Heap.get?_push_of_some _ (by rw [← hD]; exact Heap.get?_push_size _ hfreed))
  have wlt : ∀ b ∈ wr, b < D := fun b hb => by obtain ⟨o, e, _⟩ := W.obj 0 _ W.start b hb; exact lt₂ e
  have fplt : ∀ b ∈ fp, b < D := fun b hb => by
    rcases W.fpx b hb with q | ⟨o, e, _⟩
    · exact wlt b q
    · exact lt₂ e
  -- the frame around, with the two new ones
  have S₁ : St F ⟨fun a => σ.X a ∨ a = C ∨ a = D, σ.Γ, σ.Ω⟩ { s₂ with heap := h₁, toks := s₂.toks + ([] : List (Str × Value)).length } := by
    refine St.more (X := σ.X) S₂ (fun a h => .inl h) (fun a h => ?_) ⟨h₁, _, rfl, old⟩ (fun a h => ?_)
    · rcases h with h | rfl | rfl
      · exact .inl h
      · refine .inr ?_
        cases e : s₂.heap.get? a with
        | none => rfl
        | some o => exact absurd (lt₂ e) (Nat.not_lt.mpr (Nat.le_of_lt hDlt))
      · refine .inr ?_
        cases e : s₂.heap.get? a with
        | none => rfl
        | some o => exact absurd (lt₂ e) (Nat.lt_irrefl _)
    · rcases h with h | rfl | rfl
      · obtain ⟨o, e⟩ := S₂.xin a h; exact ⟨o, old _ _ e⟩
      · obtain ⟨o, _, _, e, _⟩ := hns₁; exact ⟨o, e⟩
      · exact ⟨_, accAt⟩
  have ac0 : RdC F.prog F.w (fun a => σ.X a ∨ a = C ∨ a = D) h₁ (ac []) (.ref D) := by
    have r := hac0 s₂.heap (fun a => σ.X a ∨ a = C ∨ a = D) (by rw [hD]; exact hsz)
    rw [hD] at r
    refine r.keep fun b o e => ?_
    by_cases hb : b = D
    · subst hb
      rw [accAt, ← e, ← hD]
      exact (Heap.get?_push_size _ hfreed).symm
    · refine hsb₁.extBut b o ?_ (Heap.get?_push_of_some _ e)
      have := Heap.lt_size e
      rw [hCe] at this
      exact Nat.ne_of_lt this
  have subX : Sub s₂.heap σ.X (fun a => σ.X a ∨ a = C ∨ a = D) := fun a h => by
    have none : ∀ b, D ≤ b → s₂.heap.get? b = none := fun b hb => by
      cases e : s₂.heap.get? b with
      | none => rfl
      | some o => exact absurd (lt₂ e) (Nat.not_lt.mpr hb)
    rcases h with h | rfl | rfl
    · exact .inl h
    · exact .inr (none _ (Nat.le_of_lt hDlt))
    · exact .inr (none _ (Nat.le_refl _))
  have loop : codeAny (model F.prog F.w) F.A (.compLoop e 0 (.ref I) (.ref D) (compEnvC scope (clOf F.env scope.names []) C F.env)) (RR (.ref D) C) { s₂ with heap := h₁, toks := s₂.toks + ([] : List (Str × Value)).length } := by
    refine compLoopG (fun n s' => ∃ i, n = items.length + 1 - i ∧ i ≤ items.length ∧ Sti i s'.heap ∧ St F ⟨fun a => σ.X a ∨ a = C ∨ a = D, σ.Γ, σ.Ω⟩ s' ∧ (∃ h tk, s' = { s₂ with heap := h, toks := tk }) ∧ (∃ m, s'.heap.Ns C m) ∧
        RdC F.prog F.w (fun a => σ.X a ∨ a = C ∨ a = D) s'.heap (ac (xs.take i)) (.ref D) ∧ ∀ b o, b ∉ wr → s₂.heap.get? b = some o → s'.heap.get? b = some o)
      (hturn _ _ _) (hden _ _ _) (hq _ _ _) (hun _ _ _ _) ?_ (items.length + 1) ⟨0, rfl, Nat.zero_le _, ?_, S₁, ⟨_, _, rfl⟩, ⟨_, hns₁⟩, ac0, fun b o _ e => old b o e⟩
    · rintro n s' ⟨i, rfl, hi, hst, S', ⟨hh, tkk, rfl⟩, hC', hac, hk'⟩
      have krOf : ∀ h : Heap, (∀ b o, b ∉ wr → s₂.heap.get? b = some o → h.get? b = some o) → KeepR (fun a => σ.X a ∨ a = C ∨ a = D) s₂.heap h := fun h hk b o e q => hk b o (fun hm => by
        obtain ⟨o', e', nr⟩ := W.obj 0 _ W.start b hm
        rw [e] at e'; cases e'
        exact nr.not q) e
      have wX : ∀ b ∈ wr, ¬ (σ.X b ∨ b = C ∨ b = D) := fun b hb q => by
        have := wlt b hb
        rcases q with q | q | q
        · exact hwX b hb q
        · rw [q] at this; exact Nat.lt_irrefl _ (Nat.lt_trans this hDlt)
        · rw [q] at this; exact Nat.lt_irrefl _ this
      have Cw : C ∉ wr := fun hm => wX C hm (.inr (.inl rfl))
      have Dw : D ∉ wr := fun hm => wX D hm (.inr (.inr rfl))
      by_cases hlt : i < items.length
      · have hd : items[i]? = some items[i] := List.getElem?_eq_getElem hlt
        refine W.turns.item i _ _ _ hlt hst fun v h₂ tk₂ hMd hk₂ => ?_
        refine W.turns.go i v _ _ _ hMd fun h₃ hP hst₃ hk₃ => ?_
        have hk23 : ∀ b o, b ∉ wr → hh.get? b = some o → h₃.get? b = some o := fun b o hb e => hk₃ b o hb (hk₂ b o hb e)
        have S₃ : St F ⟨fun a => σ.X a ∨ a = C ∨ a = D, σ.Γ, σ.Ω⟩ { s₂ with heap := h₃, toks := tk₂ } := S'.offI wr hk23 (W.obj i _ hst) wX hw0 hwb
        have hk3 : ∀ b o, b ∉ wr → s₂.heap.get? b = some o → h₃.get? b = some o := fun b o hb e => hk23 b o hb (hk' b o hb e)
        have rv₀ := W.read (fun a => σ.X a ∨ a = C ∨ a = D) subX i v h₃ _ hd hP (krOf h₃ hk3)
        obtain ⟨x, hx, hxd⟩ : ∃ x, xs[i]? = some x ∧ φ x = items[i] := by
          subst hφ
          have hi' : i < xs.length := by simpa using hlt
          exact ⟨xs[i], List.getElem?_eq_getElem hi', by simp⟩
        obtain ⟨e1, post, e2⟩ := take_succ' hx
        obtain ⟨Γ₁, htg, hts, hem, hno⟩ := hel (xs.take i) x post e2 C (fun a => σ.X a ∨ a = C ∨ a = D) D (inComp F scope C)
        obtain ⟨mC, hCn⟩ := hC'
        have hCn₃ : h₃.Ns C mC := hCn.at' fun o e => hk23 C o Cw e
        have hac₃ : RdC F.prog F.w (fun a => σ.X a ∨ a = C ∨ a = D) h₃ (ac (xs.take i)) (.ref D) := by
          refine hac.keepR (fun b o e q => ?_) fun o e => hk23 D o Dw e
          refine hk23 b o (fun hm => ?_) e
          obtain ⟨o', e', nr⟩ := W.obj i _ hst b hm
          have e'' : hh.get? b = some o' := e'
          rw [e] at e''; cases e''
          exact nr.not q
        have hcC : ∀ x c, F.env.cells.lookup x = some c → c ≠ C := fun x c q => by
          obtain ⟨⟨_, o, ho, _⟩, _⟩ := S₂.cells x c q
          exact Nat.ne_of_lt (Nat.lt_trans (lt₂ ho) hDlt)
        have hcD : ∀ x c, F.env.cells.lookup x = some c → c ≠ D := fun x c q => by
          obtain ⟨⟨_, o, ho, _⟩, _⟩ := S₂.cells x c q
          exact Nat.ne_of_lt (lt₂ ho)
        have Sc : St (cF F scope C) ⟨fun a => σ.X a ∨ a = C ∨ a = D, Γ₀, []⟩ { s₂ with heap := h₃, toks := tk₂ } :=
          St.comp (σ := σ) S₃ ok ⟨mC, hCn₃⟩ (.inr (.inl rfl)) (Nat.le_trans hs0 (Nat.le_of_lt hDlt)) hcC hnd hΓ
        rw [← hxd] at rv₀
        refine wpAny_mono (htg { s₂ with heap := h₃, toks := tk₂ } _ v Sc rv₀) (fun _ s₄ ⟨S₄, f₄⟩ => ?_) fun _ _ e => e
        refine wpAny_mono (hts s₄ S₄) (fun okb s₅ ⟨k5, eb⟩ => ?_) fun _ _ e => e
        have f₅ : ∀ b o, b ≠ C → h₃.get? b = some o → s₅.heap.get? b = some o := fun b o hb e => k5.k b o (f₄ b o hb e)
        have hac₅ : RdC F.prog F.w (fun a => σ.X a ∨ a = C ∨ a = D) s₅.heap (ac (xs.take i)) (.ref D) := by
          refine hac₃.keepR (fun b o e q => f₅ b o (fun hb => ?_) e) fun o e => f₅ D o hDC e
          subst hb
          rcases q with q | q
          · exact notT_ns hCn₃ o e q
          · exact q.1 (.inr (.inl rfl))
        have S₅ := S₄.keeps k5
        have nsC₅ : ∃ m, s₅.heap.Ns C m := S₅.loc
        -- what is left to show of the turn's end, at any state that changes D alone
        have finish : ∀ s₆ : Shared, (∃ h' tk', s₆ = { s₅ with heap := h', toks := tk' }) → RdC F.prog F.w (fun a => σ.X a ∨ a = C ∨ a = D) s₆.heap (ac (xs.take (i + 1))) (.ref D) → (∃ o, s₆.heap.get? D = some o) → (∀ b o, b ≠ D → s₅.heap.get? b = some o → s₆.heap.get? b = some o) →
            ∃ m, m < items.length + 1 - i ∧ ∃ i', m = items.length + 1 - i' ∧ i' ≤ items.length ∧ Sti i' s₆.heap ∧ St F ⟨fun a => σ.X a ∨ a = C ∨ a = D, σ.Γ, σ.Ω⟩ s₆ ∧ (∃ h tk, s₆ = { s₂ with heap := h, toks := tk }) ∧ (∃ m, s₆.heap.Ns C m) ∧
              RdC F.prog F.w (fun a => σ.X a ∨ a = C ∨ a = D) s₆.heap (ac (xs.take i')) (.ref D) ∧ ∀ b o, b ∉ wr → s₂.heap.get? b = some o → s₆.heap.get? b = some o := by
          rintro s₆ ⟨h₆, tk₆, rfl⟩ hac₆ hD₆ f₆
          obtain ⟨h₀', t₀', e5⟩ := S₅.sh
          obtain ⟨h₀, t₀, e2'⟩ := S₂.sh
          have e5' : s₅ = { F.s₀ with heap := h₀', toks := t₀' } := e5
          have shape : ({ s₅ with heap := h₆, toks := tk₆ } : Shared) = { s₂ with heap := h₆, toks := tk₆ } := by rw [e5', e2']
          have f36 : ∀ b o, b ∉ [C, D] → h₃.get? b = some o → h₆.get? b = some o := fun b o hb e => f₆ b o (fun q => hb (by simp [q])) (f₅ b o (fun q => hb (by simp [q])) e)
          have small : ∀ b, b < D → b ∉ [C, D] := fun b hb hm => by
            rcases List.mem_cons.mp hm with q | hm
            · rw [q] at hb; exact Nat.lt_irrefl _ (Nat.lt_trans hb hDlt)
            · rw [List.mem_singleton.mp hm] at hb; exact Nat.lt_irrefl _ hb
          have nsC₆ : ∃ m, h₆.Ns C m := by
            obtain ⟨m, hm⟩ := nsC₅
            exact ⟨m, hm.at' fun o e => f₆ C o (Ne.symm hDC) e⟩
          have inCD : ∀ b ∈ [C, D], b = C ∨ b = D := fun b hb => by simpa using hb
          refine ⟨items.length + 1 - (i + 1), by omega, i + 1, rfl, hlt, W.turns.frame _ _ _ hst₃ (fun b hb o e => f36 b o (small b (fplt b hb)) e), ?_, ⟨h₆, tk₆, shape⟩, nsC₆, hac₆, fun b o hb e => f36 b o (small b (lt₂ e)) (hk3 b o hb e)⟩
          rw [shape]
          refine St.off S₃ [C, D] f36 (fun b hb => ?_) (fun b hb q => ?_) (fun b hb x c q z => ?_) (fun b hb q hq' z => ?_) (fun b hb _ => ?_) (fun b hb o hw e => ?_) fun b hb => ?_
          · rcases inCD b hb with rfl | rfl
            · obtain ⟨o, es, ep, e, r⟩ := hCn₃
              exact ⟨o, e, fun q => q.elim (notT_ns ⟨o, es, ep, e, r⟩ o e) fun q => q.1 (.inr (.inl rfl))⟩
            · obtain ⟨o, e, nt⟩ := hac₃.notT (hacC _)
              exact ⟨o, e, fun q => q.elim nt fun q => q.1 (.inr (.inr rfl))⟩
          · obtain ⟨m, hm⟩ := S₂.loc
            obtain ⟨o, _, _, e, _⟩ := hm
            exact small _ (lt₂ e) (q ▸ hb)
          · obtain ⟨⟨_, o, e, _⟩, _⟩ := S₂.cells x c q
            exact small _ (lt₂ e) (z ▸ hb)
          · obtain ⟨_, _, hXq, _⟩ := S₂.own q hq'
            obtain ⟨o, e⟩ := S₂.xin _ hXq
            exact small _ (lt₂ e) (z ▸ hb)
          · rcases inCD b hb with rfl | rfl
            · obtain ⟨m, o, _, _, e, _⟩ := nsC₆; exact ⟨o, e⟩
            · exact hD₆
          · have := S₂.keep b o hw e
            exact small _ (lt₂ this) hb
          · cases e : F.base.get? b with
            | none => rfl
            | some o => exact absurd hb (small _ (lt₂ (S₂.base b o e)))
        subst eb
        cases hp : p x with
        | true =>
          rw [if_pos rfl]
          refine wpAny_mono (hem hp s₅ S₅ (.inr (.inr rfl)) hac₅) (fun _ s₆ ⟨q1, q2, q3, q4⟩ => finish s₆ q1 (by rw [e1]; exact q2) q3 q4) fun _ _ e => e
        | false =>
          rw [if_neg Bool.false_ne_true]
          refine finish s₅ ⟨s₅.heap, s₅.toks, rfl⟩ (by rw [e1, hno hp]; exact hac₅) ?_ fun _ _ _ e => e
          obtain ⟨o, e, _⟩ := hac₅.notT (hacC _)
          exact ⟨o, e⟩
      · have hie : i = items.length := Nat.le_antisymm hi (Nat.not_lt.mp hlt)
        refine W.turns.done _ _ _ (hie ▸ hst) fun h₃ tk₃ hk₃ => ?_
        have hk3 : ∀ b o, b ∉ wr → s₂.heap.get? b = some o → h₃.get? b = some o := fun b o hb e => hk₃ b o hb (hk' b o hb e)
        obtain ⟨mC, hCn⟩ := hC'
        have hlen : xs.length ≤ i := by rw [hie, hφ]; simp
        rw [List.take_of_length_le hlen] at hac
        refine hRR D C h₃ tk₃ (S'.offI wr hk₃ (W.obj i _ hst) wX hw0 hwb) (hac.keepR (fun b o e q => ?_) fun o e => hk₃ D o Dw e) ⟨mC, hCn.at' fun o e => hk₃ C o Cw e⟩ (Nat.le_refl _) (Nat.le_of_lt hDlt) (Ne.symm hDC) hk3
        refine hk₃ b o (fun hm => ?_) e
        obtain ⟨o', e', nr⟩ := W.obj i _ hst b hm
        have e'' : hh.get? b = some o' := e'
        rw [e] at e''; cases e''
        exact nr.not q
    · exact W.turns.frame _ _ _ W.start fun b _ o e => old b o e
  exact hstart _ _ _ _ _ loop (W.self 0 _ _ (W.turns.frame _ _ _ W.start fun b _ o e => old b o e) loop)

end
end Mine
end

section
open PySem PySem.W PyProof.Rows PySem.Calls
set_option autoImplicit false
set_option maxRecDepth 100000
namespace Mine

section
variable {F : Fx} {σ : Ix} {s : Shared}

theorem RdL.snoc {prog : Program} {w : World} {X : Addr → Prop} {h : Heap} : ∀ {l : List Dt} {vs : List Value} {d : Dt} {v : Value}, RdL prog w X h l vs → Rd prog w X h d v → RdL prog w X h (l ++ [d]) (vs ++ [v])
  | [], vs, d, v, x, r => by
    simp only [RdL] at x; subst x
    simp only [List.nil_append, RdL]; exact ⟨v, [], rfl, r, rfl⟩
  | e :: es, vs, d, v, x, r => by
    simp only [RdL] at x
    obtain ⟨u, q, rfl, h1, h2⟩ := x
    simp only [List.cons_append, RdL]
    exact ⟨u, q ++ [v], rfl, h1, RdL.snoc h2 r⟩

/-- a dict's entries with one more, or one changed -/
noncomputable def dput (l : List (List Int × Dt)) (k : List Int) (d : Dt) : List (List Int × Dt) :=
  if (l.lookup k).isSome then l.map fun e => if e.1 = k then (e.1, d) else e else l ++ [(k, d)]

theorem RdD.snoc {prog : Program} {w : World} {X : Addr → Prop} {h : Heap} : ∀ {l : List (List Int × Dt)} {xs : List (List Int × Addr × Value)} {k : List Int} {a : Addr} {d : Dt} {v : Value}, RdD prog w X h l xs → Rd prog w X h d v → RdD prog w X h (l ++ [(k, d)]) (xs ++ [(k, a, v)])
  | [], xs, k, a, d, v, x, r => by
    simp only [RdD] at x; subst x
    simp only [List.nil_append, RdD]; exact ⟨a, v, [], rfl, r, rfl⟩
  | e :: es, xs, k, a, d, v, x, r => by
    simp only [RdD] at x
    obtain ⟨b, u, q, rfl, h1, h2⟩ := x
    simp only [List.cons_append, RdD]
    exact ⟨b, u, q ++ [(k, a, v)], rfl, h1, RdD.snoc h2 r⟩
theorem RdD.put {prog : Program} {w : World} {X : Addr → Prop} {h : Heap} : ∀ {l : List (List Int × Dt)} {xs : List (List Int × Addr × Value)} {k : List Int} {d : Dt} {v : Value}, RdD prog w X h l xs → Rd prog w X h d v → RdD prog w X h (l.map fun e => if e.1 = k then (e.1, d) else e) (xs.map (putAt k v))
  | [], xs, k, d, v, x, r => by
    simp only [RdD] at x; subst x
    simp [RdD]
  | e :: es, xs, k, d, v, x, r => by
    simp only [RdD] at x
    obtain ⟨b, u, q, rfl, h1, h2⟩ := x
    have ih := RdD.put (k := k) h2 r
    simp only [List.map_cons, RdD]
    by_cases hk : e.1 = k
    · exact ⟨b, v, _, by simp [putAt, hk], by simp [hk, r], ih⟩
    · exact ⟨b, u, _, by simp [putAt, hk], by simp [hk, h1], ih⟩
theorem RdD.stored {prog : Program} {w : World} {X : Addr → Prop} {h : Heap} {l : List (List Int × Dt)} {xs : List (List Int × Addr × Value)} {k : List Int} {a : Addr} {d : Dt} {v : Value} (x : RdD prog w X h l xs) (r : Rd prog w X h d v) :
    RdD prog w X h (dput l k d) (storedH xs k a v) := by
  have hf := RdD.find (k := k) x
  unfold dput
  cases e : l.lookup k with
  | none =>
    rw [e] at hf
    rw [storedH_new hf]
    exact x.snoc r
  | some d' =>
    rw [e] at hf
    obtain ⟨p, hp, _⟩ := hf
    rw [storedH_old hp]
    exact x.put r

theorem St.xsize (S : St F σ s) : ∀ a, σ.X a → a < s.heap.objs.size := fun _ ha => let ⟨_, e⟩ := S.xin _ ha; Heap.lt_size e
theorem St.size2 (S : St F σ s) : 2 < s.heap.objs.size := by
  obtain ⟨o, _, _, e, _⟩ := S.sta.g
  have h := Heap.lt_size (S.base _ _ e)
  exact Nat.lt_trans (show 2 < mainGlobals by decide) h

theorem St.le (S : St F σ s) : F.s₀.heap.objs.size ≤ s.heap.objs.size := by
  obtain ⟨m, o, _, _, e, _⟩ := S.loc
  exact Nat.le_trans S.locN (Nat.le_of_lt (Heap.lt_size e))

theorem keepR_ns {X : Addr → Prop} {h h' : Heap} {C : Addr} {m : Str → Option Value} (hs : Heap.SameBut C h h') (hX : X C) (hn : h.Ns C m) : KeepR X h h' := (keepX_of hs hX (notT_ns hn)).r

/-- a comprehension of one clause, over data made of xs: what is known of the new container, ahead of its frame's going -/
theorem comp_run {α : Type} {e target iter : Expr} {ifs : List Expr} {ipos pos : Pos} {scope : Scope} {emit : Addr → Env → Sem Unit} {newAcc : Sem Value} {accO : Obj}
    {use : Option (Value → Sem Unit)} {Q : Value → Shared → Prop} (xs : List α) (φ : α → Dt) (ac : List α → Dt) (p : α → Bool) (Γ₀ : List (Str × Option Dt))
    (hcl : clausesOf e = [⟨target, iter, ifs, 0⟩])
    (hturn : ∀ it D env, compTurn e 0 it (.ref D) env = (do
      standAt ipos
      match ← pyNext it with
      | none => pure (.done .next)
      | some v =>
        letOwnedTupleGo target it v
        assign target env v
        let mut ok := true
        for c in ifs do
          if ok then ok ← isTrue c env (eval c env)
        if ok then
          emit D env
        again (.compLoop e 0 it (.ref D) env)))
    (hden : ∀ it acc env, denote table (.compLoop e 0 it acc env) = (compTurn e 0 it acc env).onRaise (fun x => do noteFrame x env; theTreesLotGoes x))
    (hq : ∀ it acc env, (Code.compLoop e 0 it acc env).quiet = true) (hun : ∀ A it acc env, Around.under A (.compLoop e 0 it acc env) = A)
    (hstart : ∀ (it acc : Value) (env : Env) (R : Result → Shared → Prop) (s : Shared), codeAny (model F.prog F.w) F.A (.compLoop e 0 it acc env) R s →
      wpAny (model F.prog F.w) F.A (pyIter it) (fun it' s' => codeAny (model F.prog F.w) F.A (.compLoop e 0 it' acc env) R s') NoE s → codeAny (model F.prog F.w) F.A (.compStart e 0 it acc env) R s)
    (hnew : ∀ (s : Shared) (Q : Value → Shared → Prop), Q (.ref s.heap.objs.size) { s with heap := s.heap.push accO } → wpAny (model F.prog F.w) F.A newAcc Q NoE s)
    (hfreed : accO.isFreed = false) (hac0 : ∀ (h : Heap) (X : Addr → Prop), 2 < h.objs.size → RdC F.prog F.w X (h.push accO) (ac []) (.ref h.objs.size))
    (hacC : ∀ pre, IsCon (ac pre))
    (S : St F σ s) (hsrc : Src F σ target iter (xs.map φ)) (ok : CompOk F scope)
    (hnd : (Γ₀.map (·.1)).Nodup) (hΓ : ∀ y d, (y, some d) ∈ Γ₀ → (y, some d) ∈ σ.Γ ∧ (y, NameKind.free) ∈ scope.names ∧ scope.names.lookup y = some .free)
    (hel : ∀ pre x post, xs = pre ++ x :: post → ∀ C X D, InComp (cF F scope C) scope.names → ∃ Γ₁, TgL (cF F scope C) [] target (φ x) Γ₀ Γ₁ ∧ TsOk (cF F scope C) ⟨X, Γ₁, []⟩ ifs (p x) ∧
      (p x = true → Em (cF F scope C) ⟨X, Γ₁, []⟩ (emit D (cF F scope C).env) D (ac pre) (ac (pre ++ [x]))) ∧ (p x = false → ac (pre ++ [x]) = ac pre))
    (hQ : ∀ D C s', s.heap.get? D = none → s.heap.get? C = none → C ≠ D → Kp s s' → St F ⟨fun a => σ.X a ∨ a = C ∨ a = D, σ.Γ, σ.Ω⟩ s' → RdC F.prog F.w (fun a => σ.X a ∨ a = C ∨ a = D) s'.heap (ac xs) (.ref D) → (∃ m, s'.heap.Ns C m) →
      compPost (model F.prog F.w) F.A NoE use Q (.ref D) C (.ok .next) s')
    (hfs : ∀ x env, foldedSetIterable iter env x = pure x) :
    wpAny (model F.prog F.w) F.A (comprehension e scope F.env pos newAcc false (eval iter F.env) use) Q NoE s := by
  have hf : ∀ p ∈ scope.names, p.2 = .free → (F.env.cells.lookup p.1).isSome = true := fun p hp hq => (ok.free p hp hq).2
  refine wpAny_comprehension_free hcl (fun x => hfs x F.env) (closure_ok scope hf) ok.kind ok.locals ?_
  refine wpAny_mono (hsrc s S) (fun x s₁ h₁ => wpAny_mono h₁ (fun it s₂ h₂ => ?_) fun _ _ e => e.elim) fun _ _ e => e.elim
  obtain ⟨k0, I, fp, wr, P, Md, Sti, rfl, hfr, W⟩ := h₂
  have S₂ := S.keeps k0
  have hwX : ∀ b ∈ wr, ¬ σ.X b := fun b hb q => by
    obtain ⟨o, e⟩ := S.xin b q
    rw [hfr b hb] at e; cases e
  have hw0 : ∀ b ∈ wr, ∀ o, ¬ F.W b → F.s₀.heap.get? b ≠ some o := fun b hb o hw e => by
    have := S.keep b o hw e
    rw [hfr b hb] at this; cases this
  have hwb : ∀ b ∈ wr, F.base.get? b = none := fun b hb => by
    cases e : F.base.get? b with
    | none => rfl
    | some o => have := S.base b o e; rw [hfr b hb] at this; cases this
  refine wpAny_mono (comp_core (RR := compPost (model F.prog F.w) F.A NoE use Q) xs φ ac p Γ₀ hturn hden hq hun hstart hnew hfreed hac0 hacC rfl S₂ W ok hwX hw0 hwb S₂.size2 S₂.le hnd hΓ hel fun D C h tk S₃ r hC hD hC' hne hk => ?_)
    (fun _ _ q => wpAny_mono q (fun _ _ z => z) fun _ _ e => e.elim) fun _ _ e => e.elim
  have fresh : ∀ b, s₂.heap.objs.size ≤ b → s.heap.get? b = none := fun b hb => by
    cases e : s.heap.get? b with
    | none => rfl
    | some o => exact absurd (Heap.lt_size (k0.k _ _ e)) (Nat.not_lt.mpr hb)
  refine hQ D C _ (fresh D hD) (fresh C hC') hne ?_ S₃ r hC
  obtain ⟨h', t', rfl, k⟩ := k0
  exact ⟨h, tk, rfl, fun b o e => hk b o (fun hm => by rw [hfr b hm] at e; cases e) (k b o e)⟩


/-! ## list comprehensions -/
theorem em_list {elt : Expr} {D : Addr} {l : List Dt} {d : Dt} (h : Ex F σ elt d) (hl : l.length ≤ sizeLine) :
    Em F σ (do let _ ← call (.builtin "list.append") [.ref D, ← eval elt F.env]) D (.plist l) (.plist (l ++ [d])) := fun s S hX r => by
  refine wpAny_bind (wpAny_mono (h s S) (fun v s₁ ⟨k1, r1⟩ => ?_) fun _ _ e => e.elim)
  obtain ⟨a, items, e, ht, hr⟩ := r.keep k1.k
  cases e
  have hlen : items.size ≤ sizeLine := by have := hr.length; simp at this; omega
  obtain ⟨n, ho⟩ := ht
  refine wpAny_bind (append_at (hsz := hlen) ho fun h' hs ho' => wpAny_pure ?_)
  obtain ⟨h₁, t₁, rfl, k⟩ := k1
  have kr : KeepR σ.X h₁ h' := KeepX.r (keepX_of hs hX fun o e q => by
    rw [show h₁.get? D = _ from ho] at e; cases e
    have := q.1; injection this with z; exact absurd z (by decide))
  refine ⟨⟨h', t₁, rfl⟩, ⟨D, _, rfl, ⟨_, ho'⟩, ?_⟩, ?_, fun b o hb e => ?_⟩
  · rw [Array.toList_push]
    exact (hr.keepR kr).snoc (r1.keepR kr)
  · exact ⟨_, ho'⟩
  · rw [hs.2 b hb]; exact k _ _ e

theorem hnew_list (s : Shared) (Q : Value → Shared → Prop) (h : Q (.ref s.heap.objs.size) { s with heap := s.heap.push { cls := .type "list", data := .seq #[] } }) : wpAny (model F.prog F.w) F.A (newList []) Q NoE s :=
  wpAny_newObj_type h
theorem hac0_list {prog : Program} {w : World} (h : Heap) (X : Addr → Prop) : RdC prog w X (h.push { cls := .type "list", data := .seq #[] }) (.plist []) (.ref h.objs.size) :=
  ⟨_, #[], rfl, ⟨_, Heap.get?_push_size _ rfl⟩, by simp [RdL]⟩

theorem list_run {α : Type} {elt target iter : Expr} {ifs : List Expr} {ipos pos : Pos} {scope : Scope} {use : Option (Value → Sem Unit)} {Q : Value → Shared → Prop} (xs : List α) (φ f : α → Dt) (p : α → Bool) (Γ₀ : List (Str × Option Dt))
    (S : St F σ s) (hsrc : Src F σ target iter (xs.map φ)) (ok : CompOk F scope)
    (hnd : (Γ₀.map (·.1)).Nodup) (hΓ : ∀ y d, (y, some d) ∈ Γ₀ → (y, some d) ∈ σ.Γ ∧ (y, NameKind.free) ∈ scope.names ∧ scope.names.lookup y = some .free)
    (hel : ∀ x ∈ xs, ∀ C X, InComp (cF F scope C) scope.names → ∃ Γ₁, TgL (cF F scope C) [] target (φ x) Γ₀ Γ₁ ∧ TsOk (cF F scope C) ⟨X, Γ₁, []⟩ ifs (p x) ∧
      (p x = true → Ex (cF F scope C) ⟨X, Γ₁, []⟩ elt (f x)))
    (hQ : ∀ D C s', s.heap.get? D = none → s.heap.get? C = none → C ≠ D → Kp s s' → St F ⟨fun a => σ.X a ∨ a = C ∨ a = D, σ.Γ, σ.Ω⟩ s' → RdC F.prog F.w (fun a => σ.X a ∨ a = C ∨ a = D) s'.heap (.plist ((xs.filter p).map f)) (.ref D) → (∃ m, s'.heap.Ns C m) →
      compPost (model F.prog F.w) F.A NoE use Q (.ref D) C (.ok .next) s')
    (hlen : xs.length ≤ sizeLine) (hfs : ∀ x env, foldedSetIterable iter env x = pure x) :
    wpAny (model F.prog F.w) F.A (comprehension (.ListComp elt [⟨target, iter, ifs, 0⟩] scope pos) scope F.env ipos (newList []) false (eval iter F.env) use) Q NoE s := by
  refine comp_run (accO := { cls := .type "list", data := .seq #[] }) (ipos := iter.pos) (ifs := ifs) (emit := fun D env => do let _ ← call (.builtin "list.append") [.ref D, ← eval elt env]) xs φ (fun pre => .plist ((pre.filter p).map f)) p Γ₀ rfl
    (fun it D env => compTurn_list elt target iter ifs scope pos it (.ref D) env) (fun _ _ _ => rfl) (fun _ _ _ => rfl) (fun _ _ _ _ => rfl)
    (fun it acc env R s h0 h => codeAny_compStart_list h0 (wpAny_mono h (fun _ _ z => z) fun _ _ e => e.elim)) hnew_list rfl (fun h X _ => hac0_list h X) (fun _ => .p) S hsrc ok hnd hΓ ?_ hQ hfs
  rintro pre x post rfl C X D ic
  obtain ⟨Γ₁, h1, h2, h3⟩ := hel x (by simp) C X ic
  refine ⟨Γ₁, h1, h2, fun hp => ?_, fun hp => by simp [List.filter_append, hp]⟩
  have e : ((pre ++ [x]).filter p).map f = (pre.filter p).map f ++ [f x] := by simp [List.filter_append, hp]
  rw [e]
  refine em_list (h3 hp) ?_
  rw [List.length_map]
  exact Nat.le_trans (List.length_filter_le _ _) (Nat.le_trans (by simp) hlen)

theorem Ex.listCompP {α : Type} {elt target iter : Expr} {ifs : List Expr} {scope : Scope} {pos : Pos} (xs : List α) (φ f : α → Dt) (p : α → Bool) (Γ₀ : List (Str × Option Dt)) {items : List Dt} {d : Dt} (hi : items = xs.map φ) (hd : d = .plist ((xs.filter p).map f))
    (hsrc : Src F σ target iter items) (ok : CompOk F scope)
    (hnd : (Γ₀.map (·.1)).Nodup) (hΓ : ∀ y d, (y, some d) ∈ Γ₀ → (y, some d) ∈ σ.Γ ∧ (y, NameKind.free) ∈ scope.names ∧ scope.names.lookup y = some .free)
    (hel : ∀ x ∈ xs, ∀ C X, InComp (cF F scope C) scope.names → ∃ Γ₁, TgL (cF F scope C) [] target (φ x) Γ₀ Γ₁ ∧ TsOk (cF F scope C) ⟨X, Γ₁, []⟩ ifs (p x) ∧
      (p x = true → Ex (cF F scope C) ⟨X, Γ₁, []⟩ elt (f x)))
    (hlen : xs.length ≤ sizeLine) (hfs : ∀ x env, foldedSetIterable iter env x = pure x := by intro _ _; rfl) :
    Ex F σ (.ListComp elt [⟨target, iter, ifs, 0⟩] scope pos) d := fun s S => by
  subst hi; subst hd
  rw [eval_ListComp]
  refine list_run (use := none) xs φ f p Γ₀ S hsrc ok hnd hΓ hel (fun D C s' hD hC hne kp S' r hn => ?_) hlen hfs
  obtain ⟨m, hn⟩ := hn
  refine ⟨m, hn, fun h' hs => ?_⟩
  have kr := keepR_ns (X := fun a => σ.X a ∨ a = C ∨ a = D) hs (.inr (.inl rfl)) hn
  obtain ⟨h₁, t₁, rfl, k⟩ := kp
  refine ⟨⟨h', t₁, rfl, fun b o e => ?_⟩, ?_⟩
  · rw [hs.2 b (fun q => by subst q; rw [hC] at e; cases e)]; exact k _ _ e
  · have r' := (RdC.keepR r kr (fun o e => by rw [hs.2 D (Ne.symm hne)]; exact e)).sub (Y := σ.X) fun a ha => .inl (.inl ha)
    exact r'.rd fun q => by obtain ⟨o, e⟩ := S.xin _ q; rw [hD] at e; cases e

theorem Ex.listComp {α : Type} {elt target iter : Expr} {ifs : List Expr} {scope : Scope} {pos : Pos} (xs : List α) (φ f : α → Dt) (p : α → Bool) (Γ₀ : List (Str × Option Dt)) {items : List Dt} {d : Dt} (hi : items = xs.map φ) (hd : d = .list ((xs.filter p).map f))
    (hsrc : Src F σ target iter items) (ok : CompOk F scope)
    (hnd : (Γ₀.map (·.1)).Nodup) (hΓ : ∀ y d, (y, some d) ∈ Γ₀ → (y, some d) ∈ σ.Γ ∧ (y, NameKind.free) ∈ scope.names ∧ scope.names.lookup y = some .free)
    (hel : ∀ x ∈ xs, ∀ C X, InComp (cF F scope C) scope.names → ∃ Γ₁, TgL (cF F scope C) [] target (φ x) Γ₀ Γ₁ ∧ TsOk (cF F scope C) ⟨X, Γ₁, []⟩ ifs (p x) ∧
      (p x = true → Ex (cF F scope C) ⟨X, Γ₁, []⟩ elt (f x)))
    (hlen : xs.length ≤ sizeLine) (hfs : ∀ x env, foldedSetIterable iter env x = pure x := by intro _ _; rfl) :
    Ex F σ (.ListComp elt [⟨target, iter, ifs, 0⟩] scope pos) d := fun s S => by
  subst hd
  exact wpAny_mono (Ex.listCompP xs φ f p Γ₀ hi rfl hsrc ok hnd hΓ hel hlen hfs s S) (fun _ _ q => ⟨q.1, q.2.plain⟩) fun _ _ e => e

theorem evalThenUse_list {elt : Expr} {gens : List Comprehension} {scope : Scope} {pos : Pos} {env : Env} {u : Value → Sem Unit} : evalThenUse (.ListComp elt gens scope pos) env u = (do let _ ← comprehension (.ListComp elt gens scope pos) scope env (firstIterPos gens pos) (newList []) (firstAsync gens) (firstIter gens env) (some u)) := rfl

theorem St.drop {X : Addr → Prop} {Γ : List (Str × Option Dt)} {Ω : List (Str × Addr × Dt)} {s : Shared} {C : Addr} {m : Str → Option Value} {h' : Heap} (S : St F ⟨fun a => X a ∨ a = C, Γ, Ω⟩ s) (hn : s.heap.Ns C m) (hs : Heap.SameBut C s.heap h') (hX : ¬ X C)
    (hl : X F.env.locals) (hc : ∀ x c, F.env.cells.lookup x = some c → X c) (ho : ∀ p ∈ Ω, X p.2.1) (hxc : ∀ a, F.Xc a → X a) (h0 : ∀ o, F.s₀.heap.get? C = some o → ¬ F.W C → False) (hb : ∀ o, F.base.get? C = some o → False) :
    St F ⟨X, Γ, Ω⟩ { s with heap := h' } := by
  obtain ⟨h₀, t₀, e⟩ := S.sh
  have kr : KeepR (fun a => X a ∨ a = C) s.heap h' := keepR_ns hs (.inr rfl) hn
  have kb : ∀ b o, b ≠ C → s.heap.get? b = some o → h'.get? b = some o := fun b o hb e => by rw [hs.2 b hb]; exact e
  have hne : ∀ a, X a → a ≠ C := fun a ha q => hX (q ▸ ha)
  have sb : Sub h' (fun a => X a ∨ a = C) X := fun a ha => .inl (.inl ha)
  have has : ∀ x v, Has F.env s.heap x v → Has F.env h' x v := fun x v H => by
    refine ⟨H.1, ?_⟩
    rcases H.2 with ⟨a, m, hm, e⟩ | ⟨a, c, hc', o, ho, hd⟩
    · exact .inl ⟨a, m, hm.at' fun o e => kb _ o (hne _ hl) e, e⟩
    · exact .inr ⟨a, c, hc', o, kb _ _ (hne _ (hc _ _ hc')) ho, hd⟩
  exact {
    sh := ⟨h', s.toks, by rw [e]⟩
    keep := fun b o hw e => kb b o (fun q => by subst q; exact h0 o e hw) (S.keep b o hw e)
    sta := S.sta
    base := fun b o e => kb b o (fun q => by subst q; exact hb o e) (S.base b o e)
    basein := S.basein
    kind := S.kind
    globals := S.globals
    builtins := S.builtins
    loc := let ⟨m, hm⟩ := S.loc; ⟨m, hm.at' fun o e => kb _ o (hne _ hl) e⟩
    locX := hl
    locN := S.locN
    cells := fun x c e => by
      obtain ⟨⟨v, o, ho', hd⟩, _, q⟩ := S.cells x c e
      exact ⟨⟨v, o, kb _ _ (hne _ (hc _ _ e)) ho', hd⟩, hc _ _ e, q⟩
    apart := S.apart
    xin := fun a ha => let ⟨o, e⟩ := S.xin a (.inl ha); ⟨o, kb _ _ (hne _ ha) e⟩
    xc := hxc
    xclt := S.xclt
    names := S.names
    vals := fun x d hx => let ⟨v, H, r⟩ := S.vals x d hx; ⟨v, has x v H, (r.keepR kr).sub sb⟩
    own := fun p hp => let ⟨H, r, _, q⟩ := S.own p hp; ⟨has _ _ H, (r.keepR kr (fun o e => kb _ o (hne _ (ho p hp)) e)).sub sb, ho p hp, q⟩ }

/-- a name = a list comprehension, stored within the comprehension -/
theorem Es.listComp {α : Type} {x : Str} {px spos : Pos} {elt target iter : Expr} {ifs : List Expr} {scope : Scope} {pos : Pos} (xs : List α) (φ f : α → Dt) (p : α → Bool) (Γ₀ : List (Str × Option Dt)) {items : List Dt} {d : Dt} {Γ' : List (Str × Option Dt)} (hi : items = xs.map φ) (hd : d = .list ((xs.filter p).map f))
    (hx : (x == ("__debug__" : Str)) = false ∧ F.env.kindOf x = some .local) (hsrc : Src F σ target iter items) (ok : CompOk F scope)
    (hnd : (Γ₀.map (·.1)).Nodup) (hΓ : ∀ y d, (y, some d) ∈ Γ₀ → (y, some d) ∈ σ.Γ ∧ (y, NameKind.free) ∈ scope.names ∧ scope.names.lookup y = some .free)
    (hel : ∀ x ∈ xs, ∀ C X, InComp (cF F scope C) scope.names → ∃ Γ₁, TgL (cF F scope C) [] target (φ x) Γ₀ Γ₁ ∧ TsOk (cF F scope C) ⟨X, Γ₁, []⟩ ifs (p x) ∧
      (p x = true → Ex (cF F scope C) ⟨X, Γ₁, []⟩ elt (f x)))
    (hset : SetAt x d σ.Γ Γ') (hΩ : NoΩ σ x)
    (hsw : swapsWith (.ListComp elt [⟨target, iter, ifs, 0⟩] scope pos) (some (.Name x px)) spos.line F.env = pure true)
    (hlen : xs.length ≤ sizeLine) (hfs : ∀ x env, foldedSetIterable iter env x = pure x := by intro _ _; rfl) :
    Es F σ (.Assign [.Name x px] (.ListComp elt [⟨target, iter, ifs, 0⟩] scope pos) spos) ⟨σ.X, Γ', σ.Ω⟩ := fun s S => by
  subst hi; subst hd
  rw [exec_Assign_Name_used _ _ _ _ hsw]
  refine wpAny_bind (wpAny_standAt (wpAny_bind ?_))
  rw [evalThenUse_list]
  refine wpAny_bind (wpAny_mono (list_run (use := some (PySem.assign (.Name x px) F.env)) (Q := fun _ s' => St F ⟨σ.X, Γ', σ.Ω⟩ s' ∧ KeepX σ.X s.heap s'.heap) xs φ f p Γ₀ S hsrc ok hnd hΓ hel (fun D C s' hD hC hne kp S' r hn => ?_) hlen hfs)
    (fun _ s' hq => wpAny_pure (wpAny_pure ⟨rfl, hq⟩)) fun _ _ e => e.elim)
  obtain ⟨m, hn⟩ := hn
  have nX : ∀ b, σ.X b → b ≠ C ∧ b ≠ D := fun b hb => by
    obtain ⟨o, e⟩ := S.xin b hb
    exact ⟨fun q => (by rw [q, hC] at e; cases e), fun q => (by rw [q, hD] at e; cases e)⟩
  have hcell : ∀ x c, F.env.cells.lookup x = some c → σ.X c := fun x c e => (S.cells x c e).2.1
  have S₁ : St F ⟨fun a => σ.X a ∨ a = C, σ.Γ, σ.Ω⟩ s' := S'.less (fun a h => h.elim .inl fun q => .inr (.inl q)) (.inl S.locX) (fun x c e => .inl (hcell x c e)) (fun q hq => .inl (S.own q hq).2.2.1) fun a ha => .inl (S.xc a ha)
  have r₁ : Rd F.prog F.w (fun a => σ.X a ∨ a = C) s'.heap (.list ((xs.filter p).map f)) (.ref D) := Rd.plain <|
    (r.sub (Y := fun a => σ.X a ∨ a = C) fun a ha => .inl (ha.elim .inl fun q => .inr (.inl q))).rd fun q => q.elim (fun z => (nX D z).2 rfl) fun z => hne z.symm
  refine PyProof.Rows.assign_Name (wpAny_mono (S₁.storeL hx.2 hx.1 r₁ hset hΩ) (fun _ s₂ ⟨S₂, k2, k3⟩ => ?_) fun _ _ e => e.elim)
  have hCL : C ≠ F.env.locals := fun q => (nX _ S.locX).1 q.symm
  have hn₂ : s₂.heap.Ns C m := hn.at' fun o e => k3 C o hCL e
  refine ⟨m, hn₂, fun h' hs => ?_⟩
  refine ⟨St.drop S₂ hn₂ hs (fun q => (nX _ q).1 rfl) S.locX hcell (fun q hq => (S.own q hq).2.2.1) S.xc (fun o e hw => ?_) (fun o e => ?_), fun b o e hb => ?_⟩
  · have := S.keep _ o hw e; rw [hC] at this; cases this
  · have := S.base _ o e; rw [hC] at this; cases this
  have hbC : b ≠ C := fun q => by subst q; rw [hC] at e; cases e
  show h'.get? b = some o
  rw [hs.2 b hbC]
  refine k2 b o (kp.k _ _ e) (hb.imp (fun hn q => q.elim hn hbC) id)

end
end Mine
end

section
open PySem PySem.W PyProof.Rows PySem.Calls
set_option autoImplicit false
set_option maxRecDepth 100000
namespace Mine

section
variable {F : Fx} {σ : Ix} {s : Shared}

theorem RdC.con {prog : Program} {w : World} {X : Addr → Prop} {h : Heap} {d : Dt} {a : Addr} (r : RdC prog w X h d (.ref a)) (hd : IsCon d) : ∃ o, h.get? a = some o ∧ ¬ IsT o := r.notT hd

noncomputable def Tch (c : Addr) (s s' : Shared) : Prop := ∃ h' tk, s' = { s with heap := h', toks := tk } ∧ ∀ b o, b ≠ c → s.heap.get? b = some o → h'.get? b = some o

theorem Tch.of {c : Addr} {s s' : Shared} (k : Kp s s') : Tch c s s' := by obtain ⟨h, t, rfl, k⟩ := k; exact ⟨h, t, rfl, fun b o _ e => k b o e⟩
theorem Tch.trans {c : Addr} {s s' s'' : Shared} (x : Tch c s s') (y : Tch c s' s'') : Tch c s s'' := by
  obtain ⟨h, t, rfl, k⟩ := x
  obtain ⟨h', t', rfl, k'⟩ := y
  exact ⟨h', t', rfl, fun b o hb e => k' b o hb (k b o hb e)⟩
theorem Tch.same {c : Addr} {s : Shared} {h' : Heap} {tk : Nat} (hs : Heap.SameBut c s.heap h') : Tch c s { s with heap := h', toks := tk } := ⟨h', tk, rfl, fun b o hb e => by rw [hs.2 b hb]; exact e⟩

theorem St.touch {X : Addr → Prop} {Γ : List (Str × Option Dt)} {x : Str} {c : Addr} {d d' : Dt} {s' : Shared} (S : St F ⟨X, Γ, [(x, c, d)]⟩ s) (hc : IsCon d) (hc' : IsCon d') (t : Tch c s s') (r : RdC F.prog F.w X s'.heap d' (.ref c)) :
    St F ⟨X, Γ, [(x, c, d')]⟩ s' ∧ KeepX X s.heap s'.heap := by
  obtain ⟨h', tk, rfl, hk⟩ := t
  obtain ⟨H, r0, hX, ⟨hw, hb⟩, hl, hcl⟩ := S.own _ (List.mem_singleton.mpr rfl)
  obtain ⟨o, ho, nt⟩ := r0.con hc
  obtain ⟨o', ho', _⟩ := r.con hc'
  dsimp only at H r0 hX hw hb hl hcl ho'
  have kx : KeepX X s.heap h' := fun b o₁ e q => by
    by_cases hbc : b = c
    · subst hbc
      rw [ho] at e; cases e
      exact q.elim (fun z => absurd hX z) fun z => absurd z nt
    · exact hk b o₁ hbc e
  have S₀ : St F ⟨X, Γ, []⟩ s := { S with own := fun p hp => by cases hp }
  have S₁ : St F ⟨X, Γ, []⟩ { s with heap := h', toks := tk } := by
    refine St.off S₀ [c] (fun b o hb e => hk b o (fun q => hb (by simp [q])) e) (fun b hb => ?_) (fun b hb => ?_) (fun b hb => ?_) (fun b hb q hq' => by cases hq') (fun b hb _ => ?_) (fun b hb o₁ hw' e => ?_) fun b hb' => ?_
    · obtain rfl := List.mem_singleton.mp hb
      exact ⟨o, ho, fun q => q.elim nt fun z => z.1 hX⟩
    · obtain rfl := List.mem_singleton.mp hb; exact hl
    · obtain rfl := List.mem_singleton.mp hb; exact hcl
    · obtain rfl := List.mem_singleton.mp hb; exact ⟨o', ho'⟩
    · obtain rfl := List.mem_singleton.mp hb
      rcases hw with hw | hw
      · rw [hw] at e; cases e
      · exact hw' hw
    · obtain rfl := List.mem_singleton.mp hb'; exact hb
  refine ⟨{ S₁ with own := fun p hp => ?_ }, kx⟩
  obtain rfl := List.mem_singleton.mp hp
  refine ⟨⟨H.1, ?_⟩, r, hX, ⟨hw, hb⟩, hl, hcl⟩
  rcases H.2 with ⟨a, m, hm, e⟩ | ⟨a, c', hc', o₁, ho₁, hd⟩
  · exact .inl ⟨a, m, hm.at' fun o e => hk _ o (Ne.symm hl) e, e⟩
  · exact .inr ⟨a, c', hc', o₁, hk _ _ (hcl _ _ hc') ho₁, hd⟩

/-- an expression that changes the one owned container -/
noncomputable def ExW (F : Fx) (X : Addr → Prop) (Γ : List (Str × Option Dt)) (x : Str) (c : Addr) (d₀ : Dt) (e : Expr) (d d₁ : Dt) : Prop := ∀ s, St F ⟨X, Γ, [(x, c, d₀)]⟩ s →
  wpAny (model F.prog F.w) F.A (eval e F.env) (fun v s' => Tch c s s' ∧ RdC F.prog F.w X s'.heap d₁ (.ref c) ∧ Rd F.prog F.w X s'.heap d v) NoE s

/-- a def of the text, called on a container that it may change and on data -/
noncomputable def FnW (prog : Program) (w : World) (k i : Nat) (d₀ : Dt) (ds : List Dt) (d d₁ : Dt) : Prop :=
  ∀ (base : Heap) (mg mb : Str → Option Value) (a : Addr) (A : Around) (s : Shared) (X : Addr → Prop) (c : Addr) (vs : List Value), Sta base mg mb → mg (dfAt i).name = some (.ref a) → Keep base s.heap → Room k A →
    (∀ c, X c → ∃ o, s.heap.get? c = some o) → X c → base.get? c = none → RdC prog w X s.heap d₀ (.ref c) → RdL prog w X s.heap ds vs →
    wpAny (model prog w) A (call (.ref a) (.ref c :: vs)) (fun v s' => Tch c s s' ∧ RdC prog w X s'.heap d₁ (.ref c) ∧ Rd prog w X s'.heap d v) NoE s

noncomputable def RetKW (F : Fx) (c : Addr) (d d₁ : Dt) (fl : Flow) (s' : Shared) : Prop :=
  (match fl with | .ret v => Rd F.prog F.w F.Xc s'.heap d v | .next => d = .none | _ => False) ∧ (∃ h tk, s' = { F.s₀ with heap := h, toks := tk }) ∧ (∀ b o, ¬ F.W b → F.s₀.heap.get? b = some o → s'.heap.get? b = some o) ∧ RdC F.prog F.w F.Xc s'.heap d₁ (.ref c)

structure FnCtxW (i k : Nat) (c : Addr) (F : Fx) : Prop where
  room : Room k F.A
  names : KOfF F.env (dfAt i).scope.names
  kof : KOf F.env (dfAt i).scope.names
  w : ∀ b, F.W b ↔ b = c

theorem FnW.of_body {prog : Program} {w : World} {k i : Nat} {x₀ : Str} {xs ys : List Str} {d₀ : Dt} {ds : List Dt} {d d₁ : Dt} (hlen : xs.length = ds.length) (hc₀ : IsCon d₀)
    (hbind : ∀ (pm code doc : Value) (vs : List Value), vs.length = (x₀ :: xs).length → bindArgs (docDef (dfAt i).name (dfAt i).params (dfAt i).body (dfAt i).scope pm code doc) ⟨vs, []⟩ = pure ((x₀ :: xs).zip vs))
    (hi : i ∈ defIdx)
    (hloc : ((x₀ :: xs).all fun x => (dfAt i).scope.names.lookup x == some .local || (dfAt i).scope.names.lookup x == some .cell) = true)
    (hdbg : ((x₀ :: xs).all fun x => !(x == ("__debug__" : Str))) = true)
    (hnd : (x₀ :: xs ++ ys).Nodup)
    (hscope : ((dfAt i).scope.isCoroutine == false && (dfAt i).scope.isGenerator == false && (dfAt i).scope.kind == .function) = true)
    (hbody : ∀ (F : Fx) (X : Addr → Prop) (c : Addr), F.prog = prog → F.w = w → FnCtxW i k c F → Sx F ⟨X, args0 xs ds ys, [(x₀, c, d₀)]⟩ (dfAt i).body (RetKW F c d d₁)) : FnW prog w (k + 1) i d₀ ds d d₁ := by
  intro base mg mb a A s X c₀ vs hsta hmg hbase hroom hX hXc₀ hbc₀ hr₀ hr
  obtain ⟨a', o, pm, code, doc, hmg', ho, hdata, hcode⟩ := hsta.fn i hi
  rw [hmg] at hmg'; cases hmg'
  have hsc : (dfAt i).scope.isCoroutine = false ∧ (dfAt i).scope.isGenerator = false ∧ (dfAt i).scope.kind = .function := by
    simpa [Bool.and_eq_true, and_assoc] using hscope
  have hvl : vs.length = xs.length := by rw [hr.length, hlen]
  have hzip : ((x₀ :: xs).zip (Value.ref c₀ :: vs)).map (·.1) = x₀ :: xs := by
    rw [List.map_fst_zip]; simp [hvl]
  have hnx : (x₀ :: xs).Nodup := (List.nodup_append.mp hnd).1
  have hkind : ∀ p ∈ (x₀ :: xs).zip (Value.ref c₀ :: vs), (dfAt i).scope.names.lookup p.1 = some .local ∨ ((dfAt i).scope.names.lookup p.1 = some .cell ∧ ((cellsFrom (s.heap.objs.size + 1) (dfAt i).scope.names []).lookup p.1).isSome = true) := by
    intro p hp
    have hm : p.1 ∈ x₀ :: xs := by rw [← hzip]; exact List.mem_map.mpr ⟨p, hp, rfl⟩
    have := List.all_eq_true.mp hloc p.1 hm
    simp only [Bool.or_eq_true, beq_iff_eq] at this
    rcases this with q | q
    · exact .inl q
    · exact .inr ⟨q, cellsFrom_some _ _ _ (.inl q)⟩
  have hbase' : s.heap.get? a = some o := hbase _ _ ho
  obtain ⟨oc, hoc, ntc⟩ := hr₀.con hc₀
  have hclt : c₀ < s.heap.objs.size := Heap.lt_size hoc
  refine wpAny_call (call_cells_ret (by have := hroom.2.1; omega) hbase' hdata (hsta.nolimit.keeps hbase) (hcode.keeps hbase) (hbind pm code doc (.ref c₀ :: vs) (by simp [hvl])) hkind (fun h₁ tk Fh Ch => ?_) hsc.1 hsc.2.1 hsc.2.2)
  have body := hbody ⟨prog, w, base, mg, mb, A.deeper (envOfC (dfAt i).name (dfAt i).scope s.heap.objs.size a code), envOfC (dfAt i).name (dfAt i).scope s.heap.objs.size a code, s, fun b => b = c₀, X⟩
    (fun c => X c ∨ c = s.heap.objs.size ∨ ∃ x, (cellsFrom (s.heap.objs.size + 1) (dfAt i).scope.names []).lookup x = some c) c₀ rfl rfl
    ⟨hroom.deeper _, ⟨fun x => rfl, fun x hx => cellsFrom_some _ _ _ (.inl hx), hsc.2.2⟩, ⟨fun x hx => hx⟩, fun _ => Iff.rfl⟩
  have hcl : ∀ x c, (cellsFrom (s.heap.objs.size + 1) (dfAt i).scope.names []).lookup x = some c → s.heap.objs.size < c := fun x c e => Ch.above _ _ (mem_of_lookup e)
  have hsub : Sub s.heap X (fun c => X c ∨ c = s.heap.objs.size ∨ ∃ x, (cellsFrom (s.heap.objs.size + 1) (dfAt i).scope.names []).lookup x = some c) := by
    rintro b (hb | rfl | ⟨y, hy⟩)
    · exact .inl hb
    · refine .inr ?_
      cases e : s.heap.get? s.heap.objs.size with
      | none => rfl
      | some o' => exact absurd (Heap.lt_size e) (Nat.lt_irrefl _)
    · refine .inr ?_
      cases e : s.heap.get? b with
      | none => rfl
      | some o' => exact absurd (Heap.lt_size e) (Nat.not_lt.mpr (Nat.le_of_lt (hcl y b hy)))
  have hasv : ∀ x v, x ∈ x₀ :: xs → (x, v) ∈ (x₀ :: xs).zip (Value.ref c₀ :: vs) → Has (envOfC (dfAt i).name (dfAt i).scope s.heap.objs.size a code) h₁ x v := fun x v hx hv => by
    have hdb : (x == ("__debug__" : Str)) = false := by simpa using List.all_eq_true.mp hdbg x hx
    refine ⟨hdb, ?_⟩
    rcases hkind _ hv with q | ⟨q, q2⟩
    · exact .inl ⟨q, _, Fh.ns, bindL_at _ _ _ x v (by rw [hzip]; exact hnx) hv q⟩
    · obtain ⟨c, hc⟩ := Option.isSome_iff_exists.mp q2
      refine .inr ⟨.inl q, c, hc, ?_⟩
      have := Ch.cell x c hc
      rwa [bindC_at _ _ _ x v (by rw [hzip]; exact hnx) hv (by show List.lookup x (dfAt i).scope.names ≠ _; rw [q]; simp)] at this
  have hndg : (xs ++ ys).Nodup := by
    have h := hnd
    rw [List.cons_append] at h
    exact (List.nodup_cons.mp h).2
  refine wpAny_mono (body { s with heap := h₁, toks := tk } ?_) (fun fl s' hK => ?_) fun _ _ e => e
  · exact {
      sh := ⟨h₁, tk, rfl⟩
      keep := fun b o _ e => Fh.keep b o e
      sta := hsta
      base := fun b o e => Fh.keep b o (hbase b o e)
      basein := fun b o e => Heap.lt_size (hbase b o e)
      kind := hsc.2.2
      globals := rfl
      builtins := rfl
      loc := ⟨_, Fh.ns⟩
      locX := .inr (.inl rfl)
      locN := Nat.le_refl _
      cells := fun x c e => ⟨⟨_, Ch.cell x c e⟩, .inr (.inr ⟨x, e⟩), Nat.le_of_lt (hcl x c e), Nat.ne_of_gt (hcl x c e)⟩
      apart := fun x y c e e' => name_of_addr Ch.apart (mem_of_lookup e) (mem_of_lookup e')
      xin := fun c hc => by
        rcases hc with hc | rfl | ⟨x, e⟩
        · obtain ⟨o', ho'⟩ := hX c hc; exact ⟨o', Fh.keep _ _ ho'⟩
        · obtain ⟨o', _, _, e, _⟩ := Fh.ns; exact ⟨o', e⟩
        · obtain ⟨o', e, _⟩ := Ch.cell x c e; exact ⟨o', e⟩
      xc := fun c hc => .inl hc
      xclt := hX
      names := by rw [args0_names _ _ _ hlen]; exact hndg
      vals := fun x e hm => by
        obtain ⟨v, hv, rv⟩ := args0_val xs ds ys vs x e hr hlen hm
        have hz : (x, v) ∈ (x₀ :: xs).zip (Value.ref c₀ :: vs) := List.mem_cons_of_mem _ hv
        have hx : x ∈ x₀ :: xs := by rw [← hzip]; exact List.mem_map.mpr ⟨(x, v), hz, rfl⟩
        exact ⟨v, hasv x v hx hz, Rd.go (Keep.x Fh.keep).r hsub _ _ rv⟩
      own := fun p hp => by
        obtain rfl := List.mem_singleton.mp hp
        refine ⟨hasv x₀ (.ref c₀) List.mem_cons_self List.mem_cons_self, (hr₀.sub hsub).keep Fh.keep, .inl hXc₀, ⟨.inr rfl, hbc₀⟩, Nat.ne_of_lt hclt, fun x c e q => ?_⟩
        exact Nat.lt_irrefl _ (Nat.lt_trans hclt (by have := hcl x c e; rw [q] at this; exact this)) }
  · obtain ⟨⟨hfl, ⟨h', tk', rfl⟩, hk, hrd⟩, _⟩ := hK
    refine ⟨⟨h', tk', rfl, fun b o hb e => hk b o hb e⟩, hrd, ?_⟩
    cases fl with
    | ret v => exact hfl
    | next => subst hfl; show Rd prog w X h' .none .none; simp only [Rd]
    | brk => exact hfl.elim
    | cont => exact hfl.elim

variable {X : Addr → Prop} {Γ : List (Str × Option Dt)} {x : Str} {c : Addr} {d₀ d₁ : Dt}

theorem ExW.call {k i : Nat} {f : Str} {es : List Expr} {ds : List Dt} {d : Dt} {p px pos : Pos} (hf : FnW F.prog F.w k i d₀ ds d d₁) (hr : Room k F.A) (hk : F.env.kindOf f = some .globalImplicit) (hc : IsCon d₀)
    (ha : ExL F ⟨X, Γ, [(x, c, d₀)]⟩ es ds) (hi : i ∈ defIdx) (hx : f = (dfAt i).name) (he : ∀ env, starEach (.Name x px :: es) env = (false, eval (.Name x px) env) :: starEach es env := by intro _; rfl)
    (hd : (f == ("__debug__" : Str)) = false := by decide +kernel) : ExW F X Γ x c d₀ (.Call (.Name f p) (.Name x px :: es) [] pos) d d₁ := fun s S => by
  obtain ⟨a, o, pm, code, doc, hm, ho, hdata, hcode⟩ := S.sta.fn i hi
  obtain ⟨H, r0, hX, ⟨hw, hb⟩, hl, hcl⟩ := S.own _ (List.mem_singleton.mpr rfl)
  refine wpAny_Call_ofName (ldG S hk (by rw [hx]; exact hm) ?_ hd)
  refine callWith_function (o := o) (fd := docDef (dfAt i).name (dfAt i).params (dfAt i).body (dfAt i).scope pm code doc) ?_
  have h0 := ha s pos S
  rw [he]
  refine evalArgs_plain ?_
  show wpAny _ _ (spliced ((false, eval (.Name x px) F.env) :: backTo pos (starEach es F.env))) _ _ s
  refine spliced_cons (H.load S.kind ?_)
  refine wpAny_mono h0 (fun vs s₁ ⟨k1, r1⟩ => ⟨⟨(S.keeps k1).base _ _ ho, hdata⟩, ?_⟩) fun _ _ e => e
  have S₁ := S.keeps k1
  exact wpAny_mono (hf F.base F.mg F.mb a F.A s₁ X c vs S.sta hm S₁.base hr S₁.xin hX hb (r0.keep k1.k) r1) (fun _ _ ⟨t, q⟩ => ⟨(Tch.of k1).trans t, q⟩) fun _ _ e => e

theorem ExW.st {e : Expr} {d : Dt} (h : ExW F X Γ x c d₀ e d d₁) (hc : IsCon d₀) (hc' : IsCon d₁) (S : St F ⟨X, Γ, [(x, c, d₀)]⟩ s) {Q : Value → Shared → Prop}
    (hQ : ∀ v s', St F ⟨X, Γ, [(x, c, d₁)]⟩ s' → KeepX X s.heap s'.heap → Tch c s s' → Rd F.prog F.w X s'.heap d v → Q v s') : wpAny (model F.prog F.w) F.A (eval e F.env) Q NoE s :=
  wpAny_mono (h s S) (fun v s' ⟨t, r, q⟩ => let ⟨S', k⟩ := S.touch hc hc' t r; hQ v s' S' k t q) fun _ _ e => e

/-- a call as a statement -/
theorem Es.exprW {e : Expr} {d : Dt} {pos : Pos} (h : ExW F X Γ x c d₀ e d d₁) (hc : IsCon d₀) (hc' : IsCon d₁) (hi : interactive F.env = false) (hs : swapsWith e none pos.line F.env = pure false) :
    Es F ⟨X, Γ, [(x, c, d₀)]⟩ (.Expr e pos) ⟨X, Γ, [(x, c, d₁)]⟩ := fun s S =>
  wpAny_Expr_any (h.st hc hc' S fun v s' S' k _ _ => ⟨rfl, S', k⟩) hi hs

theorem Es.assignW {y : Str} {py pos : Pos} {e : Expr} {d : Dt} {Γ' : List (Str × Option Dt)} (h : ExW F X Γ x c d₀ e d d₁) (hc : IsCon d₀) (hc' : IsCon d₁) (ho : Own F.env y) (hset : SetAt y d Γ Γ') (hxy : x ≠ y)
    (hs : swapsWith e (some (.Name y py)) pos.line F.env = pure false) : Es F ⟨X, Γ, [(x, c, d₀)]⟩ (.Assign [.Name y py] e pos) ⟨X, Γ', [(x, c, d₁)]⟩ := fun s S =>
  wpAny_Assign_Name (h.st hc hc' S fun v s₁ S₁ k₁ _ r => wpAny_mono (S₁.store ho.2 ho.1 r hset (fun p hp => by obtain rfl := List.mem_singleton.mp hp; exact hxy)) (fun _ s₂ ⟨S₂, k₂⟩ => ⟨rfl, S₂, k₁.trans k₂⟩) fun _ _ e => e) hs

theorem ExW.addR {l r : Expr} {a b : Int} {pos : Pos} (h1 : Ex F ⟨X, Γ, [(x, c, d₀)]⟩ l (.int a)) (h2 : ExW F X Γ x c d₀ r (.int b) d₁) : ExW F X Γ x c d₀ (.BinOp l .Add r pos) (.int (a + b)) d₁ := fun s S =>
  wpAny_BinOp (wpAny_mono (h1 s S) (fun v₁ s₁ ⟨k1, r1⟩ => wpAny_mono (h2 s₁ (S.keeps k1)) (fun v₂ s₂ ⟨t, rc, r2⟩ => by
    obtain ⟨t₁, rfl⟩ := r1.toInt
    obtain ⟨t₂, rfl⟩ := r2.toInt
    exact PyProof.Rows.add_int ⟨((Tch.of k1).trans t).trans (Tch.of (Kp.tok _ _)), rc, Rd.int⟩) fun _ _ e => e) fun _ _ e => e)
theorem ExW.subL {l r : Expr} {a b : Int} {pos : Pos} (h1 : ExW F X Γ x c d₀ l (.int a) d₁) (hc : IsCon d₀) (hc' : IsCon d₁) (h2 : Ex F ⟨X, Γ, [(x, c, d₁)]⟩ r (.int b)) : ExW F X Γ x c d₀ (.BinOp l .Sub r pos) (.int (a - b)) d₁ := fun s S =>
  wpAny_BinOp (wpAny_mono (h1 s S) (fun v₁ s₁ ⟨t, rc, r1⟩ => wpAny_mono (h2 s₁ (S.touch hc hc' t rc).1) (fun v₂ s₂ ⟨k, r2⟩ => by
    obtain ⟨t₁, rfl⟩ := r1.toInt
    obtain ⟨t₂, rfl⟩ := r2.toInt
    exact PyProof.Rows.sub_int' ⟨(t.trans (Tch.of k)).trans (Tch.of (Kp.tok _ _)), rc.keep k.k, Rd.int⟩) fun _ _ e => e) fun _ _ e => e)

/-! ## a container of one's own -/
/-- an expression whose value is a container that stood nowhere -/
noncomputable def ExN (F : Fx) (σ : Ix) (e : Expr) (d : Dt) : Prop := ∀ s, St F σ s → wpAny (model F.prog F.w) F.A (eval e F.env) (fun v s' => Kp s s' ∧ ∃ c, v = .ref c ∧ s.heap.get? c = none ∧ RdC F.prog F.w (fun a => σ.X a ∨ a = c) s'.heap d (.ref c)) NoE s

noncomputable abbrev Bare (x : Str) (Γ : List (Str × Option Dt)) : Prop := ∀ d, (x, some d) ∉ Γ

theorem St.own1 {X : Addr → Prop} {Γ : List (Str × Option Dt)} {s s' : Shared} {c : Addr} {d : Dt} (S : St F ⟨X, Γ, []⟩ s) (k : Kp s s') (hn : s.heap.get? c = none) (hd : IsCon d) (r : RdC F.prog F.w (fun a => X a ∨ a = c) s'.heap d (.ref c)) :
    St F ⟨fun a => X a ∨ a = c, Γ, []⟩ s' ∧ (F.s₀.heap.get? c = none ∨ F.W c) ∧ F.base.get? c = none ∧ c ≠ F.env.locals ∧ (∀ x a, F.env.cells.lookup x = some a → a ≠ c) := by
  obtain ⟨o, ho, _⟩ := r.con hd
  have nX : ∀ a, X a → a ≠ c := fun a ha q => by obtain ⟨o, e⟩ := S.xin a ha; rw [q, hn] at e; cases e
  refine ⟨S.more (fun a h => .inl h) (fun a h => h.imp id fun q => by rw [show a = c from q]; exact hn) k fun a ha => ?_, ?_, ?_, fun q => nX _ S.locX q.symm, fun x a e q => nX _ (S.cells x a e).2.1 q⟩
  · rcases ha with ha | rfl
    · exact (S.keeps k).xin a ha
    · exact ⟨o, ho⟩
  · by_cases hw : F.W c
    · exact .inr hw
    · refine .inl ?_
      cases e : F.s₀.heap.get? c with
      | none => rfl
      | some o' => have := S.keep c o' hw e; rw [hn] at this; cases this
  · cases e : F.base.get? c with
    | none => rfl
    | some o' => have := S.base c o' e; rw [hn] at this; cases this

end
end Mine
end

section
open PySem PySem.W PyProof.Rows PySem.Calls
set_option autoImplicit false
set_option maxRecDepth 100000
namespace Mine

section
variable {F : Fx} {σ : Ix} {s : Shared} {X : Addr → Prop} {Γ : List (Str × Option Dt)}

theorem St.storeAny (S : St F ⟨X, Γ, []⟩ s) {x : Str} {v : Value} (hk : F.env.kindOf x = some .local ∨ (F.env.kindOf x = some .cell ∧ (F.env.cells.lookup x).isSome = true))
    (hd : (x == ("__debug__" : Str)) = false) (hB : Bare x Γ) :
    wpAny (model F.prog F.w) F.A (storeName F.env x v) (fun _ s' => St F ⟨X, Γ, []⟩ s' ∧ KeepX X s.heap s'.heap ∧ Has F.env s'.heap x v ∧
      ∀ b o, b ≠ F.env.locals → (∀ y a, F.env.cells.lookup y = some a → a ≠ b) → s.heap.get? b = some o → s'.heap.get? b = some o) NoE s := by
  obtain ⟨h₀, t₀, e₀⟩ := S.sh
  obtain ⟨m, hm⟩ := S.loc
  have ne : ∀ y d, (y, some d) ∈ Γ → y ≠ x := fun y d hm q => hB d (q ▸ hm)
  rcases hk with hk | ⟨hk, hc⟩
  · refine wpAny_storeName_local hk hm (fun h' hn' hs => ?_) (by rw [S.kind]; rfl)
    have kx : KeepX X s.heap h' := keepX_of hs S.locX (notT_ns hm)
    have keepb : ∀ b o, b ≠ F.env.locals → s.heap.get? b = some o → h'.get? b = some o := fun b o hb e => by rw [hs.2 b hb]; exact e
    have hL : ∃ o, h'.get? F.env.locals = some o := by obtain ⟨o, _, _, e, _⟩ := hn'; exact ⟨o, e⟩
    have hbase : ∀ b o, F.s₀.heap.get? b = some o → b ≠ F.env.locals := fun b o e q => by
      have h1 := Heap.lt_size e
      subst q
      exact Nat.lt_irrefl _ (Nat.lt_of_lt_of_le h1 S.locN)
    have has : ∀ y u, y ≠ x → Has F.env s.heap y u → Has F.env h' y u := fun y u hy H => by
      refine ⟨H.1, ?_⟩
      rcases H.2 with ⟨a, m₂, hm₂, e⟩ | ⟨a, c, hc, hv⟩
      · refine .inl ⟨a, _, hn', ?_⟩
        rw [if_neg hy, Ns.uniq hm hm₂]; exact e
      · refine .inr ⟨a, c, hc, hv.sameBut hs ?_⟩
        exact (S.cells _ _ hc).2.2.2
    refine ⟨?_, kx, ⟨hd, .inl ⟨hk, _, hn', by rw [if_pos rfl]⟩⟩, fun b o hb _ e => keepb b o hb e⟩
    exact {
      sh := ⟨h', _, by rw [e₀]⟩
      keep := fun b o hb e => keepb b o (hbase b o e) (S.keep b o hb e)
      sta := S.sta
      base := fun b o e => keepb b o (fun q => by
        subst q
        exact Nat.lt_irrefl _ (Nat.lt_of_lt_of_le (S.basein _ _ e) S.locN)) (S.base b o e)
      basein := S.basein
      kind := S.kind
      globals := S.globals
      builtins := S.builtins
      loc := ⟨_, hn'⟩
      locX := S.locX
      locN := S.locN
      cells := fun y c e => let ⟨⟨u, hu⟩, q⟩ := S.cells y c e; ⟨⟨u, hu.sameBut hs q.2.2⟩, q⟩
      apart := S.apart
      xin := fun a ha => same_some hs (S.xin a ha) hL
      xc := S.xc
      xclt := S.xclt
      names := S.names
      vals := fun y e hy => let ⟨u, hu, ru⟩ := S.vals y e hy; ⟨u, has y u (ne y e hy) hu, ru.keepX kx⟩
      own := fun p hp => by cases hp }
  · obtain ⟨c, hc⟩ := Option.isSome_iff_exists.mp hc
    obtain ⟨⟨v₀, hv₀⟩, hXc, hcN, hcL⟩ := S.cells x c hc
    refine wpAny_storeName_cell S.kind hk hc hv₀ (fun h' hn' hs => ?_)
    have kx : KeepX X s.heap h' := keepX_of hs hXc (notT_cell hv₀)
    have keepb : ∀ b o, b ≠ c → s.heap.get? b = some o → h'.get? b = some o := fun b o hb e => by rw [hs.2 b hb]; exact e
    have hL : ∃ o, h'.get? c = some o := by obtain ⟨o, e, _⟩ := hn'; exact ⟨o, e⟩
    have hbase : ∀ b o, F.s₀.heap.get? b = some o → b ≠ c := fun b o e q => by
      have h1 := Heap.lt_size e
      subst q
      exact Nat.lt_irrefl _ (Nat.lt_of_lt_of_le h1 hcN)
    have has : ∀ y u, y ≠ x → Has F.env s.heap y u → Has F.env h' y u := fun y u hy H => by
      refine ⟨H.1, ?_⟩
      rcases H.2 with ⟨a, m₂, hm₂, e⟩ | ⟨a, c', hc', hv⟩
      · exact .inl ⟨a, m₂, hm₂.sameBut hs (Ne.symm hcL), e⟩
      · refine .inr ⟨a, c', hc', hv.sameBut hs fun q => ?_⟩
        subst q
        exact hy (S.apart _ _ _ hc' hc)
    refine ⟨?_, kx, ⟨hd, .inr ⟨.inl hk, c, hc, hn'⟩⟩, fun b o _ hb e => keepb b o (fun q => hb x c hc q.symm) e⟩
    exact {
      sh := ⟨h', s.toks, by rw [e₀]⟩
      keep := fun b o hb e => keepb b o (hbase b o e) (S.keep b o hb e)
      sta := S.sta
      base := fun b o e => keepb b o (fun q => by
        subst q
        exact Nat.lt_irrefl _ (Nat.lt_of_lt_of_le (S.basein _ _ e) hcN)) (S.base b o e)
      basein := S.basein
      kind := S.kind
      globals := S.globals
      builtins := S.builtins
      loc := ⟨m, hm.sameBut hs (Ne.symm hcL)⟩
      locX := S.locX
      locN := S.locN
      cells := fun y c' e => by
        obtain ⟨⟨u, hu⟩, q⟩ := S.cells y c' e
        by_cases hcc : c' = c
        · subst hcc; exact ⟨⟨_, hn'⟩, q⟩
        · exact ⟨⟨u, hu.sameBut hs hcc⟩, q⟩
      apart := S.apart
      xin := fun a ha => same_some hs (S.xin a ha) hL
      xc := S.xc
      xclt := S.xclt
      names := S.names
      vals := fun y e hy => let ⟨u, hu, ru⟩ := S.vals y e hy; ⟨u, has y u (ne y e hy) hu, ru.keepX kx⟩
      own := fun p hp => by cases hp }

/-- from a container that stood nowhere to the frame that owns it -/
theorem St.own2 {s' : Shared} {x : Str} {c : Addr} {d : Dt} (S : St F ⟨X, Γ, []⟩ s) (k : Kp s s') (hn : s.heap.get? c = none) (hd : IsCon d) (r : RdC F.prog F.w (fun a => X a ∨ a = c) s'.heap d (.ref c)) (ho : Own F.env x) (hB : Bare x Γ) :
    wpAny (model F.prog F.w) F.A (storeName F.env x (.ref c)) (fun _ s'' => St F ⟨fun a => X a ∨ a = c, Γ, [(x, c, d)]⟩ s'' ∧ KeepX X s.heap s''.heap ∧ KeepX (fun a => X a ∨ a = c) s'.heap s''.heap) NoE s' := by
  obtain ⟨S₁, h1, h2, h3, h4⟩ := S.own1 k hn hd r
  refine wpAny_mono (S₁.storeAny ho.2 ho.1 hB) (fun _ s₂ ⟨S₂, k2, H, kk⟩ => ⟨{ S₂ with own := fun p hp => ?_ }, fun b o e q => ?_, k2⟩) fun _ _ e => e
  · obtain rfl := List.mem_singleton.mp hp
    exact ⟨H, r.keepX k2 (fun o e => kk c o h3 h4 e), .inr rfl, ⟨h1, h2⟩, h3, h4⟩
  · have hbc : b ≠ c := fun q => by subst q; rw [hn] at e; cases e
    exact k2 b o (k.k _ _ e) (q.imp (fun z y => y.elim z hbc) id)

theorem Sx.own {x : Str} {px pos : Pos} {e : Expr} {d : Dt} {rest : List Stmt} {K : Flow → Shared → Prop} (he : ExN F ⟨X, Γ, []⟩ e d) (hd : IsCon d) (ho : Own F.env x) (hB : Bare x Γ)
    (hs : swapsWith e (some (.Name x px)) pos.line F.env = pure false)
    (hr : ∀ c, (F.s₀.heap.get? c = none ∨ F.W c) → Sx F ⟨fun a => X a ∨ a = c, Γ, [(x, c, d)]⟩ rest K) : Sx F ⟨X, Γ, []⟩ (.Assign [.Name x px] e pos :: rest) K := fun s S =>
  wpAny_execs_cons (wpAny_Assign_Name (wpAny_mono (he s S) (fun v s₁ ⟨k1, c, ev, hn, r⟩ => by
    subst ev
    have h1 := (S.own1 k1 hn hd r).2.1
    refine wpAny_mono (S.own2 k1 hn hd r ho hB) (fun _ s₂ ⟨S₂, k2, _⟩ => ?_) fun _ _ e => e
    exact wpAny_mono (hr c h1 s₂ S₂) (fun f s₃ ⟨q, k3⟩ => ⟨q, keepX_then k2 k3 fun a ha => ha.imp id fun z => by rw [show a = c from z]; exact hn⟩) fun _ _ e => e) fun _ _ e => e) hs)

theorem Sx.retOwn {x : Str} {px pos : Pos} {c : Addr} {d d' : Dt} {rest : List Stmt} (hc : F.s₀.heap.get? c = none) (hd : d' = d ∨ ∃ l, d = .plist l ∧ d' = .list l) : Sx F ⟨X, Γ, [(x, c, d)]⟩ (.Return (some (.Name x px)) pos :: rest) (RetK F d') := fun s S => by
  obtain ⟨H, r, hX, _⟩ := S.own _ (List.mem_singleton.mpr rfl)
  refine wpAny_execs_cons (wpAny_Return_some (H.load S.kind ?_))
  have r' : Rd F.prog F.w F.Xc s.heap d (.ref c) := (r.sub (Y := F.Xc) fun a ha => .inl (S.xc a ha)).rd fun q => by obtain ⟨o, e⟩ := S.xclt _ q; rw [hc] at e; cases e
  refine ⟨⟨.ref c, rfl, S.sh, S.keep, ?_⟩, (Keep.refl _).x⟩
  rcases hd with rfl | ⟨l, rfl, rfl⟩
  · exact r'
  · exact r'.plain

/-! ## new containers -/
theorem RdL.fresh {prog : Program} {w : World} {h : Heap} {Y : Addr → Prop} {l : List Dt} {vs : List Value} (r : RdL prog w X h l vs) {c : Addr} (hY : ∀ a, Y a → X a ∨ a = c) (hc : h.get? c = none) : RdL prog w Y h l vs :=
  r.sub fun a ha => (hY a ha).imp id fun q => by rw [show a = c from q]; exact hc
theorem notAt {h : Heap} {n : Nat} (hn : h.objs.size ≤ n) : h.get? n = none := by
  cases e : h.get? n with
  | none => rfl
  | some o => exact absurd (Heap.lt_size e) (Nat.not_lt.mpr hn)

/-- a list display -/
theorem ExN.lst {es : List Expr} {ds : List Dt} {pos : Pos} (h : ExL F σ es ds) (hsz : ds.length ≤ 1000) : ExN F σ (.List es pos) (.plist ds) := fun s S => by
  refine List_ (wpAny_mono (h s pos S) (fun vs s₁ ⟨k1, r1⟩ => ?_) fun _ _ e => e)
  refine wpAny_newObj_type ?_ (by show vs.toArray.size ≤ sizeLine; rw [List.size_toArray, r1.length]; exact Nat.le_trans hsz (by decide))
  have kp := St.pushK (o := { cls := .type "list", data := .seq vs.toArray }) (S.keeps k1)
  refine ⟨k1.trans kp, _, rfl, get_none k1.k (Nat.le_refl _), ⟨_, vs.toArray, rfl, ⟨_, Heap.get?_push_size _ rfl⟩, ?_⟩⟩
  exact (r1.fresh (fun a ha => ha) (notAt (Nat.le_refl _))).keep kp.k
/-- list(l) -/
theorem ExN.list {e : Expr} {l : List Dt} {p pos : Pos} (he : Ex F σ e (.list l)) (hk : F.env.kindOf "list" = some .globalImplicit) (hsz : l.length ≤ sizeLine) (hse : ∀ env, starEach [e] env = [(false, eval e env)] := by intro _; rfl) :
    ExN F σ (.Call (.Name "list" p) [e] [] pos) (.list l) := fun s S => by
  refine wpAny_Call_ofName (ldB S hk (v := .type "list") (by decide) (by rfl) ?_)
  refine PySem.callWith_type (by rw [hse]; rfl) ?_
  rw [hse]
  refine evalArgs_plain (spliced_cons (wpAny_mono (he s S) (fun v s₁ ⟨k1, r1⟩ => spliced_nil ?_) fun _ _ e => e))
  obtain ⟨a, items, rfl, _, ⟨o, ho, hc, n, hd⟩, hr⟩ := r1.toList
  have hlen : items.size ≤ sizeLine := by have := hr.length; simp at this; omega
  refine call_list_seq (hsz := hlen) a (.inl rfl) ho hc hd fun h' c' hk hD => ?_
  refine ⟨k1.trans (Kp.mk' hk), _, rfl, get_none k1.k (Nat.le_refl _), ⟨_, items, rfl, ⟨_, hD, rfl, c', rfl⟩, ?_⟩⟩
  exact (hr.fresh (fun a ha => ha) (notAt (Nat.le_refl _))).keep hk

theorem ExN.weak {e : Expr} {l : List Dt} (h : ExN F σ e (.plist l)) : ExN F σ e (.list l) := fun s S =>
  wpAny_mono (h s S) (fun _ _ ⟨k, c, e, hn, r⟩ => ⟨k, c, e, hn, r.plain⟩) fun _ _ e => e

theorem dict_new {prog : Program} {w : World} {h : Heap} {X : Addr → Prop} (hz : 2 < h.objs.size) : RdC prog w X (h.push { cls := .type "dict", data := .dict #[] }) (.dict []) (.ref h.objs.size) := by
  refine ⟨_, [], rfl, hz, ⟨_, #[], _, Heap.get?_push_size _ rfl, ⟨rfl, rfl, rfl⟩, rfl, rfl, by simp, by simp⟩, by simp [RdD]⟩

end
end Mine
end

section
open PySem PySem.W PyProof.Rows PySem.Calls
set_option autoImplicit false
set_option maxRecDepth 100000
namespace Mine

section
variable {F : Fx} {σ : Ix} {s : Shared} {X : Addr → Prop} {Γ : List (Str × Option Dt)} {x : Str} {c : Addr}

/-- `a op= e` for ints -/
theorem Es.iadd {y : Str} {py pos : Pos} {e : Expr} {a b : Int} {Γ' : List (Str × Option Dt)} (ho : Own F.env y) (hy : (y, some (.int a)) ∈ σ.Γ) (he : Ex F σ e (.int b)) (hset : SetAt y (.int (a + b)) σ.Γ Γ') (hΩ : NoΩ σ y) :
    Es F σ (.AugAssign (.Name y py) .Add e pos) ⟨σ.X, Γ', σ.Ω⟩ := fun s S => by
  obtain ⟨v, H, r⟩ := S.vals _ _ hy
  obtain ⟨t, rfl⟩ := r.toInt
  have hload : ∀ (Q : Value → Shared → Prop), Q (.int a t) s → wpAny (model F.prog F.w) F.A (loadName F.env y) Q NoE s := fun Q h => by
    obtain ⟨d, H⟩ := H
    rcases H with ⟨k, m, hm, e⟩ | ⟨k | ⟨k, q⟩, c, hc, hv⟩
    · exact wpAny_loadName_local S.kind k hm e h
    · exact wpAny_loadName_cell S.kind k hc hv h
    · exact wpAny_loadName_free S.kind k hc hv h q
  refine wpAny_AugAssign_Name (hload _ (wpAny_mono (he s S) (fun v₂ s₁ ⟨k1, r1⟩ => ?_) fun _ _ e => e))
  obtain ⟨u, rfl⟩ := r1.toInt
  refine iadd_int ?_
  have k2 := k1.trans (Kp.tok s₁ (s₁.toks + 1))
  exact wpAny_mono ((S.keeps k2).store ho.2 ho.1 Rd.int hset hΩ) (fun _ s₂ ⟨S₂, k3⟩ => ⟨rfl, S₂, k2.k.x.trans k3⟩) fun _ _ e => e

theorem setI_list {prog : Program} {w : World} {h : Heap} {l : List Dt} {vs : List Value} {k : Nat} {d : Dt} {v : Value} (x : RdL prog w X h l vs) (r : Rd prog w X h d v) : RdL prog w X h (l.set k d) (vs.set k v) := by
  induction l generalizing vs k with
  | nil => simp only [RdL] at x; subst x; simp [RdL]
  | cons e es ih =>
    simp only [RdL] at x
    obtain ⟨u, q, rfl, h1, h2⟩ := x
    cases k with
    | zero => simp only [List.set_cons_zero, RdL]; exact ⟨v, q, rfl, r, h2⟩
    | succ k => simp only [List.set_cons_succ, RdL]; exact ⟨u, _, rfl, h1, ih h2⟩

theorem sameX {h h' : Heap} {X : Addr → Prop} {prog : Program} {w : World} {d : Dt} (hs : Heap.SameBut c h h') (hX : X c) (hc : IsCon d) (r : RdC prog w X h d (.ref c)) : KeepR X h h' :=
  (keepX_of hs hX fun o e q => by obtain ⟨o', e', n⟩ := r.con hc; rw [e] at e'; cases e'; exact n q).r

/-- the owned list, at an index: what the store itself does -/
theorem St.setL {l : List Dt} {d : Dt} {k : Nat} {t : Tok} {v : Value} (S : St F ⟨X, Γ, [(x, c, .list l)]⟩ s) (r : Rd F.prog F.w X s.heap d v) (hk : k < l.length) (hsz : l.length ≤ sizeLine) :
    wpAny (model F.prog F.w) F.A (setItem (.ref c) (.int k t) v) (fun _ s' => St F ⟨X, Γ, [(x, c, .list (l.set k d))]⟩ s' ∧ KeepX X s.heap s'.heap ∧ Tch c s s') NoE s := by
  obtain ⟨_, rc, hX, _⟩ := S.own _ (List.mem_singleton.mpr rfl)
  obtain ⟨a, items, e, ht, hr⟩ := id rc
  cases e
  have hlen : items.size = l.length := by have := hr.length; simpa using this
  have hz : sizeLine = 16777216 := by decide
  refine wpAny_setItem_list ht (by omega) (by omega) (by omega) fun h' ht' hs => ?_
  have kr := sameX hs hX .l rc
  have r' : RdC F.prog F.w X h' (.list (l.set k d)) (.ref c) := by
    refine ⟨c, _, rfl, ht', ?_⟩
    rw [Array.toList_setIfInBounds, Int.toNat_natCast]
    exact setI_list (hr.keepR kr) (r.keepR kr)
  have t := Tch.same (s := s) (tk := s.toks) hs
  obtain ⟨S', k'⟩ := S.touch .l .l t r'
  exact ⟨S', k', t⟩

theorem Es.setL {px tp pos : Pos} {i e : Expr} {l : List Dt} {k : Nat} {d : Dt} (he : Ex F ⟨X, Γ, [(x, c, .list l)]⟩ e d) (hi : Ex F ⟨X, Γ, [(x, c, .list l)]⟩ i (.int k)) (hk : k < l.length) (hsz : l.length ≤ sizeLine)
    (hs : swapsWith e (some (.Subscript (.Name x px) i tp)) pos.line F.env = pure false) :
    Es F ⟨X, Γ, [(x, c, .list l)]⟩ (.Assign [.Subscript (.Name x px) i tp] e pos) ⟨X, Γ, [(x, c, .list (l.set k d))]⟩ := fun s S => by
  refine wpAny_Assign_Subscript (wpAny_mono (he s S) (fun v s₁ ⟨k1, r1⟩ => ?_) fun _ _ e => e) hs
  have S₁ := S.keeps k1
  obtain ⟨H, rc, hX, _⟩ := S₁.own _ (List.mem_singleton.mpr rfl)
  refine H.load S₁.kind (wpAny_mono (hi s₁ S₁) (fun iv s₂ ⟨k2, r2⟩ => ?_) fun _ _ e => e)
  have S₂ := S₁.keeps k2
  obtain ⟨t, rfl⟩ := r2.toInt
  exact wpAny_mono (S₂.setL (r1.keep k2.k) hk hsz) (fun _ s₃ ⟨S₃, k3, _⟩ => ⟨rfl, S₃, (k1.trans k2).k.x.trans k3⟩) fun _ _ e => e

/-- x[i] -= e -/
theorem Es.subL {px tp pos : Pos} {i e : Expr} {l : List Dt} {k : Nat} {a b : Int} (hi : Ex F ⟨X, Γ, [(x, c, .list l)]⟩ i (.int k)) (ha : l[k]? = some (.int a)) (he : Ex F ⟨X, Γ, [(x, c, .list l)]⟩ e (.int b)) (hsz : l.length ≤ sizeLine)
    (hau : ∀ ov iv new, augStore i ov iv new = (do holding [new, ov, iv] (setItem ov iv new); release [new, ov, iv] []; pure .next)) :
    Es F ⟨X, Γ, [(x, c, .list l)]⟩ (.AugAssign (.Subscript (.Name x px) i tp) .Sub e pos) ⟨X, Γ, [(x, c, .list (l.set k (.int (a - b))))]⟩ := fun s S => by
  obtain ⟨H, rc, hX, _⟩ := S.own _ (List.mem_singleton.mpr rfl)
  have hz : sizeLine = 16777216 := by decide
  have hlt : k < l.length := (List.getElem?_eq_some_iff.mp ha).1
  refine wpAny_AugAssign_SubscriptAny (H.load S.kind (wpAny_mono (hi s S) (fun iv s₁ ⟨k1, r1⟩ => ?_) fun _ _ e => e)) hau
  obtain ⟨t, rfl⟩ := r1.toInt
  have S₁ := S.keeps k1
  obtain ⟨a', items, ea, ht, hr⟩ := rc.keep k1.k
  cases ea
  obtain ⟨v, hv, rv⟩ := RdL.get hr ha
  refine wpAny_getItem_list ht (Int.natCast_nonneg k) (by omega) (by simpa using hv) ?_
  refine wpAny_mono (he s₁ S₁) (fun u s₂ ⟨k2, r2⟩ => ?_) fun _ _ e => e
  obtain ⟨t₁, rfl⟩ := rv.toInt
  obtain ⟨t₂, rfl⟩ := r2.toInt
  refine isub_int ?_
  have k3 := (k1.trans k2).trans (Kp.tok s₂ (s₂.toks + 1))
  have S₃ := S.keeps k3
  exact wpAny_mono (S₃.setL (d := .int (a - b)) Rd.int hlt hsz) (fun _ s₄ ⟨S₄, k4, _⟩ => ⟨rfl, S₄, k3.k.x.trans k4⟩) fun _ _ e => e

/-- x[i], x[j] = (…, …) -/
theorem Es.set2L {px px' tp tp' tt vp pos : Pos} {n n' : Nat} {i j : Expr} {vs : List Expr} {l : List Dt} {k k' : Nat} {d d' : Dt} (hr : F.A.handled = none)
    (he : Ex F ⟨X, Γ, [(x, c, .list l)]⟩ (.Tuple vs n' vp) (.tup [d, d']))
    (hi : Ex F ⟨X, Γ, [(x, c, .list l)]⟩ i (.int k)) (hj : Ex F ⟨X, Γ, [(x, c, .list (l.set k d))]⟩ j (.int k')) (hk : k < l.length) (hk' : k' < l.length) (hsz : l.length ≤ sizeLine)
    (hw : swappedStores [.Tuple [.Subscript (.Name x px) i tp, .Subscript (.Name x px') j tp'] n tt] (.Tuple vs n' vp) F.env = pure none) :
    Es F ⟨X, Γ, [(x, c, .list l)]⟩ (.Assign [.Tuple [.Subscript (.Name x px) i tp, .Subscript (.Name x px') j tp'] n tt] (.Tuple vs n' vp) pos) ⟨X, Γ, [(x, c, .list ((l.set k d).set k' d'))]⟩ := fun s S => by
  refine Assign_Tuple (wpAny_mono (he s S) (fun v s₁ ⟨k1, r1⟩ => ?_) fun _ _ e => e) (hw := hw)
  obtain ⟨a, items, rfl, ht, hl⟩ := r1.toTup
  simp only [RdL] at hl
  obtain ⟨v₁, _, e, rv₁, v₂, _, rfl, rv₂, rfl⟩ := hl
  have hs2 : items.size = 2 := by have := congrArg List.length e; simpa using this
  refine assign_Tuple_tuple hr ht (by rw [hs2]; rfl) rfl fun h' hee => ?_
  have k2 : Kp s₁ { s₁ with heap := h' } := ⟨h', s₁.toks, rfl, fun b o e => hee b o (Nat.ne_of_lt (Heap.lt_size e)) e⟩
  rw [e]
  show wpAny _ _ (assignInOrder [PySem.assign (.Subscript (.Name x px) i tp) F.env, PySem.assign (.Subscript (.Name x px') j tp') F.env] [v₁, v₂]) _ _ _
  have S₂ := (S.keeps k1).keeps k2
  have one : ∀ {l₁ : List Dt} {q : Pos} {ii : Expr} {tt' : Pos} {kk : Nat} {dd : Dt} {vv : Value} {s₀ : Shared}, St F ⟨X, Γ, [(x, c, .list l₁)]⟩ s₀ → Ex F ⟨X, Γ, [(x, c, .list l₁)]⟩ ii (.int kk) → Rd F.prog F.w X s₀.heap dd vv → kk < l₁.length → l₁.length ≤ sizeLine →
      wpAny (model F.prog F.w) F.A (PySem.assign (.Subscript (.Name x q) ii tt') F.env vv) (fun _ s' => St F ⟨X, Γ, [(x, c, .list (l₁.set kk dd))]⟩ s' ∧ KeepX X s₀.heap s'.heap) NoE s₀ := by
    intro l₁ q ii tt' kk dd vv s₀ S₀ hii r₀ hkk hss
    rw [arm_assign_Subscript]
    obtain ⟨H, rc, hX, _⟩ := S₀.own _ (List.mem_singleton.mpr rfl)
    refine wpAny_bind (wpAny_holding (H.load S₀.kind ?_))
    refine wpAny_bind (wpAny_holding (wpAny_mono (hii s₀ S₀) (fun iv s₁ ⟨k1, r1⟩ => ?_) fun _ _ e => e))
    obtain ⟨t, rfl⟩ := r1.toInt
    have S₁ := S₀.keeps k1
    refine wpAny_bind (wpAny_standAt (wpAny_bind (wpAny_holding (wpAny_mono (S₁.setL (r₀.keep k1.k) hkk hss) (fun _ s₃ ⟨S₃, k3, _⟩ => ?_) fun _ _ e => e))))
    exact wpAny_release ⟨S₃, k1.k.x.trans k3⟩
  refine assignInOrder_cons (wpAny_mono (one S₂ hi (rv₁.keep k2.k) hk hsz) (fun _ s₃ ⟨S₃, k3⟩ => ?_) fun _ _ e => e)
  refine assignInOrder_cons (wpAny_mono (one S₃ hj ((rv₂.keep k2.k).keepX k3) (by simpa using hk') (by simpa using hsz)) (fun _ s₄ ⟨S₄, k4⟩ => ?_) fun _ _ e => e)
  exact assignInOrder_nil ⟨rfl, S₄, ((k1.k.x.trans k2.k.x).trans k3).trans k4⟩

/-- x.append(e) as a statement -/
theorem Es.append {px ap cp pos : Pos} {e : Expr} {l : List Dt} {d : Dt} (he : Ex F ⟨X, Γ, [(x, c, .plist l)]⟩ e d) (hsz : l.length ≤ sizeLine)
    (hbase : attributeBase (.Name x px) "append" F.env (eval (.Name x px) F.env) = eval (.Name x px) F.env) (hline : (ap.endLine == cp.line) = true) (htr : backTo cp (starEach [e] F.env) = [(false, eval e F.env)])
    (hi : interactive F.env = false) (hs : swapsWith (.Call (.Attribute (.Name x px) "append" ap) [e] [] cp) none pos.line F.env = pure false) :
    Es F ⟨X, Γ, [(x, c, .plist l)]⟩ (.Expr (.Call (.Attribute (.Name x px) "append" ap) [e] [] cp) pos) ⟨X, Γ, [(x, c, .plist (l ++ [d]))]⟩ := fun s S => by
  obtain ⟨H, rc, hX, _⟩ := S.own _ (List.mem_singleton.mpr rfl)
  refine wpAny_Expr_any (wpAny_Call_method1_late hbase hline htr (H.load S.kind ?_)) hi hs
  obtain ⟨a, items, ea, ⟨n, ho⟩, hr⟩ := id rc
  cases ea
  refine ⟨"list", "list.append", PySem.F.plainAttrs_list, slot_list_append, type_list_append, ⟨_, ho, rfl⟩, fun b hb => by cases hb; exact ⟨_, ho, rfl⟩, ?_⟩
  refine Calls.callWith_builtin rfl (evalArgs_plain (spliced_cons (wpAny_mono (he s S) (fun v s₁ ⟨k1, r1⟩ => spliced_nil ?_) fun _ _ e => e)))
  have S₁ := S.keeps k1
  obtain ⟨_, rc₁, _⟩ := S₁.own _ (List.mem_singleton.mpr rfl)
  have hlen : items.size ≤ sizeLine := by have := hr.length; simp at this; omega
  refine append_at (hsz := hlen) (k1.k _ _ ho) fun h' hs ho' => ?_
  have kr := sameX hs hX .p rc₁
  have r' : RdC F.prog F.w X h' (.plist (l ++ [d])) (.ref c) := by
    refine ⟨c, _, rfl, ⟨_, ho'⟩, ?_⟩
    rw [Array.toList_push]
    exact ((hr.keep k1.k).keepR kr).snoc (r1.keepR kr)
  obtain ⟨S', k'⟩ := S₁.touch .p .p (Tch.same (s := s₁) (tk := s₁.toks) hs) r'
  exact ⟨rfl, S', k1.k.x.trans k'⟩

/-! ## dicts of one's own -/
theorem St.setD {l : List (List Int × Dt)} {k : List Int} {d : Dt} {a : Addr} {v : Value} (S : St F ⟨X, Γ, [(x, c, .dict l)]⟩ s) (hroom : Room 0 F.A) (r : Rd F.prog F.w X s.heap d v) (hkey : (tupleKind (intKind F.prog F.w)).is s.heap k a) (hsz : l.length ≤ sizeLine) :
    wpAny (model F.prog F.w) F.A (setItem (.ref c) (.ref a) v) (fun _ s' => St F ⟨X, Γ, [(x, c, .dict (dput l k d))]⟩ s' ∧ KeepX X s.heap s'.heap) NoE s := by
  obtain ⟨_, rc, hX, _⟩ := S.own _ (List.mem_singleton.mpr rfl)
  obtain ⟨a', xs, e, h2, hD, hr⟩ := id rc
  cases e
  refine wpAny_setItem_heap (hsz := by rw [hr.length]; exact hsz) hroom.u hkey hD fun h' hD' hs => ?_
  have kr := sameX hs hX .d rc
  have r' : RdC F.prog F.w X h' (.dict (dput l k d)) (.ref c) := ⟨c, _, rfl, h2, hD', (hr.keepR kr).stored (r.keepR kr)⟩
  obtain ⟨S', k'⟩ := S.touch .d .d (Tch.same (s := s) (tk := s.toks + (tupleKind (intKind F.prog F.w)).draws k) hs) r'
  exact ⟨S', k'⟩

theorem Es.setD {px tp pos : Pos} {i e : Expr} {l : List (List Int × Dt)} {k : List Int} {d : Dt} (hroom : Room 0 F.A) (he : Ex F ⟨X, Γ, [(x, c, .dict l)]⟩ e d) (hi : Ex F ⟨X, Γ, [(x, c, .dict l)]⟩ i (keyD k)) (hsz : l.length ≤ sizeLine)
    (hs : swapsWith e (some (.Subscript (.Name x px) i tp)) pos.line F.env = pure false) :
    Es F ⟨X, Γ, [(x, c, .dict l)]⟩ (.Assign [.Subscript (.Name x px) i tp] e pos) ⟨X, Γ, [(x, c, .dict (dput l k d))]⟩ := fun s S => by
  refine wpAny_Assign_Subscript (wpAny_mono (he s S) (fun v s₁ ⟨k1, r1⟩ => ?_) fun _ _ e => e) hs
  have S₁ := S.keeps k1
  obtain ⟨H, rc, hX, _⟩ := S₁.own _ (List.mem_singleton.mpr rfl)
  refine H.load S₁.kind (wpAny_mono (hi s₁ S₁) (fun iv s₂ ⟨k2, r2⟩ => ?_) fun _ _ e => e)
  have S₂ := S₁.keeps k2
  obtain ⟨b, rfl, hkey⟩ := Rd.isKey r2
  exact wpAny_mono (S₂.setD hroom (r1.keep k2.k) hkey hsz) (fun _ s₃ ⟨S₃, k3⟩ => ⟨rfl, S₃, (k1.trans k2).k.x.trans k3⟩) fun _ _ e => e

end
end Mine
end

section
open PySem PySem.W PyProof.Rows PySem.Calls
set_option autoImplicit false
set_option maxRecDepth 100000
namespace Mine

/-! ## a key taken out -/
noncomputable def derase (l : List (List Int × Dt)) (k : List Int) : List (List Int × Dt) := l.filter fun e => !decide (e.1 = k)

theorem erase_at {α β : Type} [DecidableEq α] : ∀ {l : List (α × β)} {j : Nat} {k : α} {v : β}, (l.map (·.1)).Nodup → l[j]? = some (k, v) → l.eraseIdx j = l.filter fun e => !decide (e.1 = k)
  | [], j, k, v, _, h => by simp at h
  | x :: l, 0, k, v, hn, h => by
    simp at h; subst h
    rw [List.map_cons, List.nodup_cons] at hn
    rw [List.eraseIdx_cons_zero, List.filter_cons]
    simp only [decide_true, Bool.not_true, Bool.false_eq_true, if_false]
    refine (List.filter_eq_self.mpr fun e he => ?_).symm
    have : e.1 ≠ k := fun q => hn.1 (List.mem_map.mpr ⟨e, he, q⟩)
    simp [this]
  | x :: l, j + 1, k, v, hn, h => by
    simp at h
    rw [List.map_cons, List.nodup_cons] at hn
    have hx : x.1 ≠ k := fun q => hn.1 (List.mem_map.mpr ⟨(k, v), List.mem_of_getElem? h, q.symm⟩)
    rw [List.eraseIdx_cons_succ, List.filter_cons, erase_at hn.2 h]
    simp [hx]

theorem map_erase {α β : Type} (f : α → β) : ∀ (l : List α) (j : Nat), (l.eraseIdx j).map f = (l.map f).eraseIdx j
  | [], j => by simp
  | x :: l, 0 => rfl
  | x :: l, j + 1 => by simp [map_erase f l j]

theorem RdD.erase {prog : Program} {w : World} {X : Addr → Prop} {h : Heap} {p : List Int → Bool} : ∀ {l : List (List Int × Dt)} {xs : List (List Int × Addr × Value)}, RdD prog w X h l xs → RdD prog w X h (l.filter fun e => p e.1) (xs.filter fun e => p e.1)
  | [], xs, x => by simp only [RdD] at x; subst x; simp [RdD]
  | e :: es, xs, x => by
    simp only [RdD] at x
    obtain ⟨b, u, q, rfl, h1, h2⟩ := x
    have ih := RdD.erase (p := p) h2
    simp only [List.filter_cons]
    cases hp : p e.1 with
    | true => simp only [if_true, RdD]; exact ⟨b, u, _, rfl, h1, ih⟩
    | false => simpa using ih

section
variable {prog : Program} {w : World} {A : Around} {E : Value → Shared → Prop} {s : Shared}

theorem takeOut_heap {K : Type} [DecidableEq K] {knd : HeapKind prog w K} {d a : Addr} {xs : List (K × Addr × Value)} {k : K} {Q : Option DictEntry → Shared → Prop} (hu : knd.room A) (hkey : knd.is s.heap k a) (hm : s.heap.DictOfH knd d xs)
    (hnone : atKey xs k = none → Q none { s with toks := s.toks + knd.draws k })
    (hsome : ∀ e, ∀ h', h'.DictOfH knd d (xs.filter fun e => !decide (e.1 = k)) → Heap.SameBut d s.heap h' → Q (some e) { s with heap := h', toks := s.toks + knd.draws k })
    (hsz : xs.length ≤ sizeLine) : wpAny (model prog w) A (Builtin.Dict.takeOut d (.ref a)) Q E s := by
  obtain ⟨o, es, ep, ho, hc, hd, he, his, hn⟩ := hm
  have hes : es.size = xs.length := size_of_entries he
  unfold Builtin.Dict.takeOut
  refine wpAny_holding ?_
  refine wpAny_bind (knd.pyHash hu hkey ?_)
  refine wpAny_bind (wpAny_dictFind_heap (s := { s with toks := s.toks + knd.draws k }) hu hkey ho hd he his hn ?_ ?_)
  · intro hno
    exact wpAny_pure (hnone (atKey_none_of_get hno))
  · intro j p hj
    refine wpAny_bind (wpAny_dictEntries (s := { s with toks := s.toks + knd.draws k }) ho hd ?_)
    rw [entry_at he j, hj]
    refine wpAny_bind (wpAny_updateDictKeys (hz := by omega) (s := { s with toks := s.toks + knd.draws k }) ho hd (wpAny_pure (hsome _ _ ⟨_, _, ep + 1, Heap.get?_update_self _ ho (Obj.isFreed_of_dict (Obj.data_mapDictKeys hd _)),
      hc.mapDictKeys _, Obj.data_mapDictKeys hd _, ?_, ?_, ?_⟩ (Heap.SameBut.update ..))))
    · rw [← erase_at hn hj, map_erase, ← he]
      obtain ⟨l⟩ := es
      simp
    · intro x hx
      exact knd.keeps (his x (List.mem_filter.mp hx).1) ho hd (Heap.SameBut.update ..)
    · exact List.Sublist.nodup (List.Sublist.map _ List.filter_sublist) hn

theorem call_pop_heap {K : Type} [DecidableEq K] {knd : HeapKind prog w K} {d a : Addr} {xs : List (K × Addr × Value)} {k : K} {Q : Value → Shared → Prop} (hu : knd.room A.in1) (hkey : knd.is s.heap k a) (hm : s.heap.DictOfH knd d xs) (hsys : (d == sysModules) = false)
    (h : ∀ v h' tk, h'.DictOfH knd d (xs.filter fun e => !decide (e.1 = k)) → Heap.SameBut d s.heap h' → Q v { s with heap := h', toks := tk }) (hsz : xs.length ≤ sizeLine) :
    wpAny (model prog w) A (call (.builtin "dict.pop") [.ref d, .ref a, .none]) Q E s := by
  refine wpAny_call_entry PySem.F.slot_dict_pop hm.typeIs PySem.F.entry_dict_pop ?_ (PySem.F.args_dict_pop_3 _ _ _)
  have hself : atKey xs k = none → (xs.filter fun e => !decide (e.1 = k)) = xs := fun hn => by
    refine List.filter_eq_self.mpr fun e he => ?_
    unfold atKey at hn
    have hn' := List.find?_eq_none.mp (Option.map_eq_none_iff.mp hn) e he
    simpa using hn'
  unfold Builtin.«dict.pop»
  refine wpAny_bind ?_
  unfold Builtin.Dict.keyAndDefault
  refine wpAny_bind (wpAny_notOrdered_dict hm.typeIs ?_)
  show wpAny _ _ (pure (d, Value.ref a, some Value.none)) _ _ s
  refine wpAny_pure ?_
  have hkp : (keyPart (.ref a)).isSome = false := rfl
  simp only [hkp, Bool.false_eq_true, if_false]
  have none_case : ∀ s₁ : Shared, (∃ tk, s₁ = { s with toks := tk }) → atKey xs k = none → wpAny (model prog w) A.in1 (do
      if (none : Option DictEntry).isNone then Builtin.Dict.missedRemoval d (.ref a)
      match (none : Option DictEntry), some Value.none with
      | some e, _ => letGo [e.key] [e.val]; ret e.val
      | none, some x => rule "dict.pop.default"; ret x
      | none, none => rule "dict.pop.keyerror"; raiseNew (← newExc (.type "KeyError") [.ref a])) (fun fin s' => ∃ v, fin = .done (.ret v) ∧ Q v s') E s₁ := by
    rintro s₁ ⟨tk, rfl⟩ hn
    simp only [Option.isNone_none, if_true]
    refine wpAny_bind (wpAny_missedRemoval_other hsys ?_)
    refine wpAny_bind (wpAny_rule (wpAny_pure ⟨_, rfl, h _ s.heap tk ?_ ⟨rfl, fun _ _ => rfl⟩⟩))
    rw [hself hn]; exact hm
  obtain ⟨o, es, ep, ho, hc, hd, he, his, hnd⟩ := id hm
  refine wpAny_bind (wpAny_dictEntries ho hd (wpAny_bind (wpAny_pure ?_)))
  cases hemp : es.isEmpty with
  | true =>
    simp only [if_true]
    refine wpAny_bind (wpAny_bind (wpAny_rule (wpAny_pure ?_)))
    refine none_case s ⟨s.toks, rfl⟩ ?_
    have : xs = [] := by
      have e1 := size_of_entries he
      have e2 : es.size = 0 := by simpa [Array.isEmpty_iff] using hemp
      exact List.length_eq_zero_iff.mp (by omega)
    subst this; rfl
  | false =>
    simp only [Bool.false_eq_true, if_false]
    refine wpAny_bind (takeOut_heap hu hkey hm (fun hn => ?_) (fun e h' hm' hs' => ?_) hsz)
    · exact none_case _ ⟨_, rfl⟩ hn
    · simp only [Option.isNone_some, Bool.false_eq_true, if_false]
      exact wpAny_bind (wpAny_letGo (wpAny_pure ⟨e.val, rfl, h _ h' _ hm' hs'⟩))
end

section
variable {F : Fx} {σ : Ix} {s : Shared} {X : Addr → Prop} {Γ : List (Str × Option Dt)} {x : Str} {c : Addr}

/-- x.pop(k, None) as a statement -/
theorem Es.popD {px ap cp np pos : Pos} {m : Nat} {i : Expr} {l : List (List Int × Dt)} {k : List Int} (hroom : Room 0 F.A) (hi : Ex F ⟨X, Γ, [(x, c, .dict l)]⟩ i (keyD k)) (hsz : l.length ≤ sizeLine)
    (hbase : attributeBase (.Name x px) "pop" F.env (eval (.Name x px) F.env) = eval (.Name x px) F.env) (hline : (ap.endLine == cp.line) = true)
    (htr : backTo cp (starEach [i, .Constant .none m np] F.env) = [(false, eval i F.env), (false, eval (.Constant .none m np) F.env)])
    (hin : interactive F.env = false) (hs : swapsWith (.Call (.Attribute (.Name x px) "pop" ap) [i, .Constant .none m np] [] cp) none pos.line F.env = pure false) :
    Es F ⟨X, Γ, [(x, c, .dict l)]⟩ (.Expr (.Call (.Attribute (.Name x px) "pop" ap) [i, .Constant .none m np] [] cp) pos) ⟨X, Γ, [(x, c, .dict (derase l k))]⟩ := fun s S => by
  obtain ⟨H, rc, hX, _⟩ := S.own _ (List.mem_singleton.mpr rfl)
  refine wpAny_Expr_any (wpAny_Call_method2_late hbase hline htr (H.load S.kind ?_)) hin hs
  obtain ⟨a, xs, ea, h2, hD, hr⟩ := id rc
  cases ea
  obtain ⟨o, es, ep, ho, hc, hd, he, his, hn⟩ := id hD
  refine ⟨"dict", "dict.pop", PySem.F.plainAttrs_dict, PySem.F.slot_dict_pop, PySem.F.type_dict_pop, hD.typeIs, fun b hb => by cases hb; exact ⟨o, ho, hc.2.1⟩, ?_⟩
  refine Calls.callWith_builtin rfl (evalArgs_plain (spliced_cons (wpAny_mono (hi s S) (fun v s₁ ⟨k1, r1⟩ => spliced_cons (Constant_none (spliced_nil ?_))) fun _ _ e => e)))
  have S₁ := S.keeps k1
  obtain ⟨_, rc₁, _⟩ := S₁.own _ (List.mem_singleton.mpr rfl)
  obtain ⟨b, rfl, hkey⟩ := Rd.isKey r1
  refine call_pop_heap hroom.u hkey (hD.keep k1.k) (beq_false_of_ne fun e => by rw [e] at h2; exact absurd h2 (by decide)) (fun v h' tk hm' hs' => ?_) (by rw [hr.length]; exact hsz)
  have kr := sameX hs' hX .d rc₁
  have r' : RdC F.prog F.w X h' (.dict (derase l k)) (.ref c) := ⟨c, _, rfl, h2, hm', ((hr.keep k1.k).keepR kr).erase (p := fun q => !decide (q = k))⟩
  obtain ⟨S', k'⟩ := S₁.touch .d .d (Tch.same (s := s₁) (tk := tk) hs') r'
  exact ⟨rfl, S', k1.k.x.trans k'⟩

/-! ## dict displays -/
theorem ExN.dict0 {pos : Pos} : ExN F σ (.Dict [] [] pos) (.dict []) := fun s S => by
  refine wpAny_Dict_empty ?_
  exact ⟨St.pushK S, _, rfl, notAt (Nat.le_refl _), dict_new S.size2⟩
theorem ExN.ex {e : Expr} {d : Dt} (h : ExN F σ e d) : Ex F σ e d := fun s S =>
  wpAny_mono (h s S) (fun v s' ⟨k, c, ev, hn, r⟩ => by
    subst ev
    refine ⟨k, (r.sub (Y := σ.X) fun a ha => .inl (.inl ha)).rd fun q => ?_⟩
    obtain ⟨o, e⟩ := S.xin _ q
    rw [hn] at e; cases e) fun _ _ e => e

theorem putFresh {h : Heap} {D : Addr} {l : List (List Int × Dt)} {k : List Int} {d : Dt} {a : Addr} {v : Value} {Y : Addr → Prop} {s : Shared} (hs : s.heap = h) (hroom : Room 0 F.A) (hX : Y D) (rc : RdC F.prog F.w Y h (.dict l) (.ref D)) (r : Rd F.prog F.w Y h d v)
    (hkey : (tupleKind (intKind F.prog F.w)).is h k a) (hsz : l.length ≤ sizeLine) {Q : Unit → Shared → Prop}
    (hQ : ∀ h' tk, RdC F.prog F.w Y h' (.dict (dput l k d)) (.ref D) → Heap.SameBut D h h' → Q () { s with heap := h', toks := tk }) :
    wpAny (model F.prog F.w) F.A (dictSet D (.ref a) v) Q NoE s := by
  subst hs
  obtain ⟨a', xs, e, h2, hD, hr⟩ := id rc
  cases e
  refine wpAny_dictSet_heap (hsz := by rw [hr.length]; exact hsz) (show F.A.units < cLine by have := hroom.2.2; omega) hkey hD fun h' hD' hs => ?_
  have kr := sameX hs hX .d rc
  exact hQ h' _ ⟨D, _, rfl, h2, hD', (hr.keepR kr).stored (r.keepR kr)⟩ hs

theorem St.apartNew {o : Obj} (S : St F σ s) (hf : o.isFreed = false) : St F ⟨fun a => σ.X a ∨ a = s.heap.objs.size, σ.Γ, σ.Ω⟩ { s with heap := s.heap.push o } := by
  have kp := St.pushK (o := o) S
  refine St.more (X := σ.X) S (fun a h => .inl h) (fun a h => h.imp id fun q => by rw [show a = _ from q]; exact notAt (Nat.le_refl _)) kp fun a ha => ?_
  rcases ha with ha | rfl
  · exact (S.keeps kp).xin a ha
  · exact ⟨_, Heap.get?_push_size _ hf⟩

/-- {k: v} -/
theorem ExN.dict1 {ke ve : Expr} {k : List Int} {d : Dt} {pos : Pos} (hroom : Room 0 F.A) (hk : ∀ c, Ex F ⟨fun a => σ.X a ∨ a = c, σ.Γ, σ.Ω⟩ ke (keyD k)) (hv : ∀ c, Ex F ⟨fun a => σ.X a ∨ a = c, σ.Γ, σ.Ω⟩ ve d) : ExN F σ (.Dict [some ke] [ve] pos) (.dict [(k, d)]) := fun s S => by
  refine wpAny_Dict_any rfl rfl (by simp) (by simp) ?_
  have kp := St.pushK (o := { cls := .type "dict", data := .dict #[] }) S
  have hD0 : s.heap.get? s.heap.objs.size = none := notAt (Nat.le_refl _)
  have rc := dict_new (prog := F.prog) (w := F.w) (h := s.heap) (X := fun a => σ.X a ∨ a = s.heap.objs.size) S.size2
  have S₂ := S.apartNew (o := { cls := .type "dict", data := .dict #[] }) rfl
  show wpAny _ _ (evalPairs [(eval ke F.env, do let x ← eval ve F.env; standAt pos; pure x)]) _ _ _
  refine evalPairs_cons (wpAny_mono (hk _ _ S₂) (fun kv s₁ ⟨k1, r1⟩ => wpAny_bind (wpAny_mono (hv _ _ (S₂.keeps k1)) (fun vv s₂ ⟨k2, r2⟩ => wpAny_bind (wpAny_standAt (wpAny_pure (evalPairs_nil ?_)))) fun _ _ e => e)) fun _ _ e => e)
  obtain ⟨b, rfl, hkey⟩ := Rd.isKey (r1.keep k2.k)
  have kk := k1.trans k2
  unfold storeAll
  simp only [List.forIn_cons, List.forIn_nil]
  refine wpAny_bind (wpAny_bind (putFresh rfl hroom (.inr rfl) (rc.keep kk.k) r2 hkey (by simp) fun h' tk r' hs => wpAny_pure (wpAny_pure ?_)))
  have kq := kp.trans kk
  obtain ⟨h₂, t₂, rfl, k⟩ := kq
  refine ⟨⟨h', tk, rfl, fun b o e => ?_⟩, _, rfl, hD0, r'⟩
  rw [hs.2 b (fun q => by subst q; rw [hD0] at e; cases e)]
  exact k _ _ e

/-! ## dict comprehensions -/
theorem em_dict {kx vx : Expr} {D : Addr} {l : List (List Int × Dt)} {k : List Int} {d : Dt} (hroom : Room 0 F.A) (hk : Ex F σ kx (keyD k)) (hv : Ex F σ vx d) (hl : l.length ≤ sizeLine) {pos : Pos} :
    Em F σ (do
      let kv ← eval kx F.env
      let vv ← holding [kv] (eval vx F.env)
      standAt pos
      holding [kv, vv] (dictSet D kv vv)) D (.dict l) (.dict (dput l k d)) := fun s S hX r => by
  refine wpAny_bind (wpAny_mono (hk s S) (fun kv s₁ ⟨k1, r1⟩ => wpAny_bind (wpAny_holding (wpAny_mono (hv s₁ (S.keeps k1)) (fun vv s₂ ⟨k2, r2⟩ => wpAny_bind (wpAny_standAt (wpAny_holding ?_))) fun _ _ e => e))) fun _ _ e => e)
  obtain ⟨b, rfl, hkey⟩ := Rd.isKey (r1.keep k2.k)
  have kk := k1.trans k2
  refine putFresh rfl hroom hX (r.keep kk.k) r2 hkey hl fun h' tk r' hs => ?_
  obtain ⟨h₂, t₂, rfl, k⟩ := kk
  obtain ⟨o, ho, _⟩ := r'.notT .d
  exact ⟨⟨h', tk, rfl⟩, r', ⟨o, ho⟩, fun b o hb e => by rw [hs.2 b hb]; exact k _ _ e⟩

noncomputable def dbuild (l : List (List Int × Dt)) : List (List Int × Dt) := l.foldl (fun l e => dput l e.1 e.2) []

theorem dput_length (l : List (List Int × Dt)) (k : List Int) (d : Dt) : (dput l k d).length ≤ l.length + 1 := by
  unfold dput
  split <;> simp
theorem dbuild_snoc (l : List (List Int × Dt)) (k : List Int) (d : Dt) : dbuild (l ++ [(k, d)]) = dput (dbuild l) k d := by simp [dbuild]
theorem dbuild_length (l : List (List Int × Dt)) : (dbuild l).length ≤ l.length := by
  have : ∀ (l a : List (List Int × Dt)), (l.foldl (fun l e => dput l e.1 e.2) a).length ≤ a.length + l.length := by
    intro l
    induction l with
    | nil => intro a; simp
    | cons e es ih =>
      intro a
      rw [List.foldl_cons, List.length_cons]
      have := ih (dput a e.1 e.2)
      have := dput_length a e.1 e.2
      omega
  simpa [dbuild] using this l []

theorem Ex.dictComp {α : Type} {kx vx target iter : Expr} {ifs : List Expr} {scope : Scope} {pos : Pos} (xs : List α) (φ : α → Dt) (fk : α → List Int) (fv : α → Dt) (p : α → Bool) (Γ₀ : List (Str × Option Dt)) {items : List Dt} {d : Dt} (hi : items = xs.map φ) (hd : d = .dict (dbuild ((xs.filter p).map fun x => (fk x, fv x))))
    (hroom : Room 0 F.A) (hsrc : Src F σ target iter items) (ok : CompOk F scope)
    (hnd : (Γ₀.map (·.1)).Nodup) (hΓ : ∀ y d, (y, some d) ∈ Γ₀ → (y, some d) ∈ σ.Γ ∧ (y, NameKind.free) ∈ scope.names ∧ scope.names.lookup y = some .free)
    (hel : ∀ x ∈ xs, ∀ C X, InComp (cF F scope C) scope.names → ∃ Γ₁, TgL (cF F scope C) [] target (φ x) Γ₀ Γ₁ ∧ TsOk (cF F scope C) ⟨X, Γ₁, []⟩ ifs (p x) ∧
      (p x = true → Ex (cF F scope C) ⟨X, Γ₁, []⟩ kx (keyD (fk x)) ∧ Ex (cF F scope C) ⟨X, Γ₁, []⟩ vx (fv x)))
    (hlen : xs.length ≤ sizeLine) (hfs : ∀ x env, foldedSetIterable iter env x = pure x := by intro _ _; rfl) :
    Ex F σ (.DictComp kx vx [⟨target, iter, ifs, 0⟩] scope pos) d := fun s S => by
  subst hi; subst hd
  rw [arm_eval_DictComp]
  refine comp_run (use := none) (accO := { cls := .type "dict", data := .dict #[] }) (ipos := iter.pos) (ifs := ifs) (emit := fun D env => do
      let kv ← eval kx env
      let vv ← holding [kv] (eval vx env)
      standAt { kx.pos with endLine := vx.pos.endLine, endCol := vx.pos.endCol }
      holding [kv, vv] (dictSet D kv vv)) xs φ (fun pre => .dict (dbuild ((pre.filter p).map fun x => (fk x, fv x)))) p Γ₀ rfl
    (fun it D env => compTurn_dict kx vx target iter ifs scope pos it D env) (fun _ _ _ => rfl) (fun _ _ _ => rfl) (fun _ _ _ _ => rfl)
    (fun it acc env R s h0 h => codeAny_compStart_dict h0 (wpAny_mono h (fun _ _ z => z) fun _ _ e => e.elim)) (fun s Q h => wpAny_newObj_type h) rfl (fun h X hz => dict_new hz) (fun _ => .d) S hsrc ok hnd hΓ ?_ (fun D C s' hD hC hne kp S' r hn => ?_) hfs
  · rintro pre x post rfl C X D ic
    obtain ⟨Γ₁, h1, h2, h3⟩ := hel x (by simp) C X ic
    refine ⟨Γ₁, h1, h2, fun hp => ?_, fun hp => by simp [List.filter_append, hp]⟩
    have e : ((pre ++ [x]).filter p).map (fun x => (fk x, fv x)) = (pre.filter p).map (fun x => (fk x, fv x)) ++ [(fk x, fv x)] := by simp [List.filter_append, hp]
    rw [e, dbuild_snoc]
    refine em_dict (F := cF F scope C) hroom (h3 hp).1 (h3 hp).2 ?_
    refine Nat.le_trans (dbuild_length _) ?_
    rw [List.length_map]
    exact Nat.le_trans (List.length_filter_le _ _) (Nat.le_trans (by simp) hlen)
  · obtain ⟨m, hn⟩ := hn
    refine ⟨m, hn, fun h' hs => ?_⟩
    have kr := keepR_ns (X := fun a => σ.X a ∨ a = C ∨ a = D) hs (.inr (.inl rfl)) hn
    obtain ⟨h₁, t₁, rfl, k⟩ := kp
    refine ⟨⟨h', t₁, rfl, fun b o e => ?_⟩, ?_⟩
    · rw [hs.2 b (fun q => by subst q; rw [hC] at e; cases e)]; exact k _ _ e
    · have r' := (RdC.keepR r kr (fun o e => by rw [hs.2 D (Ne.symm hne)]; exact e)).sub (Y := σ.X) fun a ha => .inl (.inl ha)
      exact r'.rd fun q => by obtain ⟨o, e⟩ := S.xin _ q; rw [hD] at e; cases e

end

end Mine
end

section
open PySem PySem.W PyProof.Rows PySem.Calls
set_option autoImplicit false
set_option maxRecDepth 100000
namespace Mine

section
variable {prog : Program} {w : World} {A : Around} {E : Value → Shared → Prop} {s : Shared}

theorem filter_hash {α : Type} : ∀ (l : List α) (f : α → Int) (x : α), (l.map f).Nodup → (l.filter fun y => f y == f x).length ≤ 1
  | [], f, x, _ => by simp
  | y :: l, f, x, h => by
    rw [List.map_cons, List.nodup_cons] at h
    rw [List.filter_cons]
    by_cases e : f y = f x
    · rw [if_pos (by simpa using e)]
      have : (l.filter fun z => f z == f x) = [] := List.filter_eq_nil_iff.mpr fun z hz q => h.1 (by rw [e]; exact List.mem_map.mpr ⟨z, hz, by simpa using q⟩)
      rw [this]; simp
    · rw [if_neg (by simpa using e)]
      exact filter_hash l f x h.2

theorem entriesForEmpty_H {id : String} {d : Addr} {xs : List (List Int × Addr × Value)} {o : Obj} {es : Array DictEntry} {ep : Nat} {Q : Array DictEntry → Shared → Prop} (ho : s.heap.get? d = some o) (hd : o.data = .dict es ep)
    (he : es.toList = xs.map (entryOfKey (tupleKind (intKind prog w)))) (his : ∀ x ∈ xs, (tupleKind (intKind prog w)).is s.heap x.1 x.2.1) (hh : (xs.map fun x => (tupleKind (intKind prog w)).hash x.1).Nodup) (h : Q es s) :
    wpAny (model prog w) A (Builtin.Dict.entriesForEmpty id d) Q E s := by
  have hf : ∀ x : DictEntry, ¬ ((es.filter (·.hash == x.hash)).size > 1) ∨ x ∉ es := fun x => by
    by_cases hx : x ∈ es
    · refine .inl ?_
      have hn : (es.toList.map (·.hash)).Nodup := by rw [he, List.map_map]; exact hh
      have h1 := filter_hash es.toList (·.hash) x hn
      have h2 : (es.filter (·.hash == x.hash)).size = (es.toList.filter fun y => y.hash == x.hash).length := by rw [← Array.toList_filter, Array.length_toList]
      omega
    · exact .inr hx
  unfold Builtin.Dict.entriesForEmpty
  refine wpAny_bind (wpAny_dictEntries ho hd ?_)
  refine wpAny_bind ?_
  rw [← Array.forIn_toList]
  refine wpAny_forIn_list _ (fun rest r s' => s' = s ∧ ∀ e ∈ rest, e ∈ es) _ ?_ ?_ _ _ ⟨rfl, fun e he => Array.mem_toList_iff.mp he⟩
  · rintro e rest r s' ⟨rfl, hall⟩
    have hin := hall e List.mem_cons_self
    have hin' : e ∈ xs.map (entryOfKey (tupleKind (intKind prog w))) := by rw [← he]; exact Array.mem_toList_iff.mpr hin
    obtain ⟨x, hx, rfl⟩ := List.mem_map.mp hin'
    have hT : Shared.TypeIs s' (.ref x.2.1) "tuple" := by
      obtain ⟨o', items, n, ho', hc', _⟩ := his x hx
      exact ⟨o', ho', hc'⟩
    refine wpAny_bind ?_
    show wpAny _ _ (specialOf (.ref x.2.1) (Str.ofString "__eq__") >>= _) _ _ _
    refine wpAny_bind (wpAny_specialOf hT PySem.F.slot_tuple_eq.lookup (wpAny_pure ?_))
    have hno : ¬ ((es.filter (·.hash == (entryOfKey (tupleKind (intKind prog w)) x).hash)).size > 1) := by
      rcases hf (entryOfKey (tupleKind (intKind prog w)) x) with q | q
      · exact q
      · exact absurd hin q
    split
    · first | rw [if_neg hno] | skip
      exact wpAny_pure ⟨rfl, fun e he => hall e (List.mem_cons_of_mem _ he)⟩
    · exact wpAny_pure ⟨rfl, fun e he => hall e (List.mem_cons_of_mem _ he)⟩
  · rintro r s' ⟨rfl, _⟩
    exact wpAny_pure h

theorem mergeDict_H {nm : String} {d o : Addr} {xs : List (List Int × Addr × Value)} {Q : Unit → Shared → Prop} (hdo : d ≠ o) (hoS : (o == sysModules) = false)
    (hd : DictE prog w s.heap d []) (ho : DictE prog w s.heap o xs) (hh : (xs.map fun x => (tupleKind (intKind prog w)).hash x.1).Nodup)
    (hQ : ∀ h', DictE prog w h' d xs → Heap.SameBut d s.heap h' → Q () { s with heap := h' }) (hsz : xs.length ≤ sizeLine) :
    wpAny (model prog w) A (Builtin.Dict.mergeDict nm d o) Q E s := by
  obtain ⟨od, esd, epd, hod, hcd, hdd, hed, hid, hnd⟩ := id hd
  obtain ⟨oo, eso, epo, hoo, hco, hdo', heo, hio, hno⟩ := id ho
  have hlen := size_of_entries heo
  have h0d : esd = #[] := by
    have := size_of_entries hed
    exact Array.size_eq_zero_iff.mp this
  unfold Builtin.Dict.mergeDict
  rw [if_neg (by simpa using hdo)]
  unfold Builtin.Dict.showsAll
  rw [if_neg (by rw [hoS]; exact Bool.false_ne_true)]
  refine wpAny_bind (wpAny_pure ?_)
  refine wpAny_bind (wpAny_dictEntries hoo hdo' ?_)
  by_cases hx : xs = []
  · -- nothing to take over
    subst hx
    have h0 : eso = #[] := Array.size_eq_zero_iff.mp (by simpa using hlen)
    subst h0
    dsimp only
    split
    · refine wpAny_bind (wpAny_dictEntries hod hdd ?_)
      subst h0d
      simp only [Array.isEmpty_empty, if_true]
      refine wpAny_bind (entriesForEmpty_H hoo hdo' heo hio hh ?_)
      simp only [Array.isEmpty_empty, Bool.not_true, Bool.false_eq_true, if_false]
      exact wpAny_pure (hQ _ hd (Heap.SameBut.refl _ _))
    · refine wpAny_bind (wpAny_dictEpoch hoo hdo' ?_)
      refine wpAny_bind (wpAny_dictEntries hoo hdo' ?_)
      refine wpAny_bind ?_
      rw [Std.Legacy.Range.forIn_eq_forIn_range']
      simp only [Std.Legacy.Range.size, Nat.sub_zero, Nat.add_sub_cancel, Nat.div_one]
      exact wpAny_pure (wpAny_pure (hQ _ hd (Heap.SameBut.refl _ _)))
  · have hne : eso ≠ #[] := fun q => by
      subst q
      exact hx (List.length_eq_zero_iff.mp (by simpa using hlen.symm))
    have hfew : (eso.size ≤ 8 && eso.all fun e => (keyPart e.key).isSome) = false := by
      have : (eso.all fun e => (keyPart e.key).isSome) = false := by
        rw [← Array.all_toList, heo]
        cases xs with
        | nil => exact absurd rfl hx
        | cons x r => rfl
      rw [this, Bool.and_false]
    dsimp only
    rw [hfew]
    simp only [Bool.not_false, if_true]
    refine wpAny_bind (wpAny_dictEntries hod hdd ?_)
    rw [if_pos (by rw [h0d]; rfl)]
    refine wpAny_bind (entriesForEmpty_H hoo hdo' heo hio hh ?_)
    rw [if_pos (by simpa [Array.isEmpty_iff] using hne)]
    have hto : eso.size ≤ sizeLine + 1 := by omega
    refine wpAny_bind (wpAny_updateDictKeysTo hod hdd (wpAny_pure (hQ _ ⟨_, _, epd + 1, Heap.get?_update_self _ hod (Obj.isFreed_of_dict (Obj.data_mapDictKeys hdd _)), hcd.mapDictKeys _,
          Obj.data_mapDictKeys hdd _, heo, fun x hx => (tupleKind (intKind prog w)).keeps (hio x hx) hod hdd (Heap.SameBut.update ..), hno⟩ (Heap.SameBut.update ..))) hto)

theorem call_dict_H {o : Addr} {xs : List (List Int × Addr × Value)} {Q : Value → Shared → Prop} (hoS : (o == sysModules) = false) (ho : DictE prog w s.heap o xs) (hsz : xs.length ≤ sizeLine) (hh : (xs.map fun x => (tupleKind (intKind prog w)).hash x.1).Nodup)
    (h : ∀ h', DictE prog w h' s.heap.objs.size xs → Heap.SameBut s.heap.objs.size (s.heap.push { cls := .type "dict", data := .dict #[] }) h' → Q (.ref s.heap.objs.size) { s with heap := h' }) :
    wpAny (model prog w) A (call (.type "dict") [.ref o]) Q E s := by
  refine callType_codes (Q₁ := fun obj s₁ => obj = .ref s.heap.objs.size ∧ s₁ = { s with heap := s.heap.push { cls := .type "dict", data := .dict #[] } }) PySem.F.kt_called_dict (PySem.F.kt_typeCall_dict_1 _) PySem.F.entry_dict_init (kt_code_dict_new _ ⟨rfl, rfl⟩) ?_
  rintro obj s₁ ⟨rfl, rfl⟩
  have hnew : DictE prog w (s.heap.push { cls := .type "dict", data := .dict #[] }) s.heap.objs.size [] := ⟨_, #[], _, Heap.get?_push_size _ rfl, ⟨rfl, rfl, rfl⟩, rfl, rfl, by simp, by simp⟩
  have ho' : DictE prog w (s.heap.push { cls := .type "dict", data := .dict #[] }) o xs := ho.keep fun b o e => Heap.get?_push_of_some _ e
  have hdo : s.heap.objs.size ≠ o := by
    obtain ⟨_, _, _, hg, _⟩ := ho
    exact fun e => absurd (Heap.lt_size hg) (by rw [e]; exact Nat.lt_irrefl _)
  refine ⟨hnew.typeIs, PySem.F.args_dict_init_2 _ _, ?_⟩
  unfold Builtin.«dict.__init__»
  refine wpAny_bind ?_
  unfold Builtin.Dict.selfAndRest
  refine wpAny_bind (wpAny_notOrdered_dict hnew.typeIs ?_)
  show wpAny _ _ (pure (s.heap.objs.size, [Value.ref o])) _ _ _
  refine wpAny_pure ?_
  show wpAny _ _ (Builtin.Dict.updateFrom "dict.__init__" s.heap.objs.size (.ref o) [] .none) _ _ _
  unfold Builtin.Dict.updateFrom
  refine wpAny_bind (wpAny_typeOf ho'.typeIs ?_)
  rw [if_neg (by decide)]
  refine wpAny_bind ?_
  unfold Builtin.Dict.merge
  refine wpAny_bind ?_
  unfold Builtin.Dict.readDirectly
  refine wpAny_bind (wpAny_isInstance ho'.typeIs isSubtype_dict_dict ?_)
  simp only [Bool.not_true, Bool.false_eq_true, if_false]
  refine wpAny_bind (wpAny_specialOf ho'.typeIs PySem.F.slot_dict_iter.lookup (wpAny_pure ?_))
  simp only [beq_self_eq_true, if_true]
  refine wpAny_bind (wpAny_pure ?_)
  refine mergeDict_H hdo hoS hnew ho' hh (fun h' hd' hs' => ?_) hsz
  show wpAny _ _ (Builtin.Dict.addKeywords s.heap.objs.size [] >>= _) _ _ _
  exact wpAny_bind (wpAny_pure (wpAny_pure ⟨rfl, h h' hd' hs'⟩))
end

section
variable {F : Fx} {σ : Ix} {s : Shared}
/-- dict(a) -/
theorem ExN.dictOf {e : Expr} {l : List (List Int × Dt)} {p pos : Pos} (he : Ex F σ e (.dict l)) (hk : F.env.kindOf "dict" = some .globalImplicit) (hsz : l.length ≤ sizeLine) (hh : (l.map fun x => tupleKeyHash (intKind F.prog F.w) x.1).Nodup)
    (hse : ∀ env, starEach [e] env = [(false, eval e env)] := by intro _; rfl) :
    ExN F σ (.Call (.Name "dict" p) [e] [] pos) (.dict l) := fun s S => by
  refine wpAny_Call_ofName (ldB S hk (v := .type "dict") (by decide) (by rfl) ?_)
  refine PySem.callWith_type (by rw [hse]; rfl) ?_
  rw [hse]
  refine evalArgs_plain (spliced_cons (wpAny_mono (he s S) (fun v s₁ ⟨k1, r1⟩ => spliced_nil ?_) fun _ _ e => e))
  obtain ⟨a, xs, rfl, _, h2, hD, hr⟩ := r1.toDict
  have hkeys : (xs.map fun x => (tupleKind (intKind F.prog F.w)).hash x.1) = l.map fun x => tupleKeyHash (intKind F.prog F.w) x.1 := by
    have := congrArg (List.map fun k => tupleKeyHash (intKind F.prog F.w) k) hr.keys
    rw [List.map_map, List.map_map] at this
    exact this
  refine call_dict_H (beq_false_of_ne fun e => by rw [e] at h2; exact absurd h2 (by decide)) hD (by rw [hr.length]; exact hsz) (by rw [hkeys]; exact hh) fun h' hD' hs => ?_
  have S₁ := S.keeps k1
  have hz := S₁.size2
  have hf : s₁.heap.get? s₁.heap.objs.size = none := notAt (Nat.le_refl _)
  have kp : Kp s₁ { s₁ with heap := h' } := ⟨h', s₁.toks, rfl, fun b o e => by
    rw [hs.2 b (fun q => by subst q; rw [hf] at e; cases e)]
    exact Heap.get?_push_of_some _ e⟩
  exact ⟨k1.trans kp, _, rfl, get_none k1.k (Nat.le_refl _), ⟨_, xs, rfl, hz, hD', (hr.sub fun a ha => ha.imp id fun q => by rw [show a = _ from q]; exact hf).keep kp.k⟩⟩
end
end Mine
end

section
open PySem PySem.W PyProof.Rows PySem.Calls
set_option autoImplicit false
set_option maxRecDepth 100000
namespace Mine

theorem rdl_ints {prog : Program} {w : World} {X : Addr → Prop} {h : Heap} : ∀ {ks : List Int} {vs : List Value}, RdL prog w X h (ks.map .int) vs → IntsAre vs ks
  | [], vs, x => by simp only [List.map_nil, RdL] at x; rw [x]; exact .nil
  | k :: ks, vs, x => by
    simp only [List.map_cons, RdL] at x
    obtain ⟨v, r, rfl, h1, h2⟩ := x
    obtain ⟨t, rfl⟩ := Rd.toInt h1
    exact .cons k t (rdl_ints h2)

section
variable {F : Fx} {σ : Ix} {s : Shared}

/-! ## comparisons of tuples and lists of ints -/
theorem same_tup (ns ms : List Int) : PySem.Spec.same (.tuple (ns.map PyData.int)) (.tuple (ms.map PyData.int)) = decide (ns = ms) := by
  simp only [PySem.Spec.same]; exact ke_sameAll ns ms
theorem shaped_tup (ns : List Int) : SeqAt.shaped (.tuple (ns.map PyData.int)) = true := by
  simp [SeqAt.shaped, PyData.canLay0, PyData.depth, ke_canLayAll0, ke_depthAll]
theorem noMix_tup (ns ms : List Int) : SeqAt.noMix (.tuple (ns.map PyData.int)) (.tuple (ms.map PyData.int)) = true := by
  simp only [SeqAt.noMix]; exact noMix_ints ns ms
theorem reads_tup {prog : Program} {w : World} {X : Addr → Prop} {h : Heap} {ns : List Int} {v : Value} (r : Rd prog w X h (keyD ns) v) : Reads h v (.tuple (ns.map PyData.int)) [] := by
  obtain ⟨a, items, rfl, ⟨o, ho, hc, n, hd⟩, hl⟩ := Rd.toTup r
  exact reads_tuple_at ho hc hd (readsAll_of_ints (rdl_ints hl))

theorem Cp.eqT {ns ms : List Int} (hr : Room 0 F.A) : Cp F σ .Eq (keyD ns) (keyD ms) (decide (ns = ms)) := fun s v₁ v₂ _ r1 r2 => by
  have h1 := reads_tup (show Rd F.prog F.w σ.X s.heap (keyD ns) v₁ from r1)
  have h2 := reads_tup (show Rd F.prog F.w σ.X s.heap (keyD ms) v₂ from r2)
  refine eq_dataH_same h1 h2 (shaped_tup _) (shaped_tup _) (by have := hr.2.2; omega) (noMix_tup _ _) ?_
  rw [same_tup]; exact post_bool
theorem Cp.neT {ns ms : List Int} (hr : Room 0 F.A) : Cp F σ .NotEq (keyD ns) (keyD ms) (!decide (ns = ms)) := fun s v₁ v₂ _ r1 r2 => by
  have h1 := reads_tup (show Rd F.prog F.w σ.X s.heap (keyD ns) v₁ from r1)
  have h2 := reads_tup (show Rd F.prog F.w σ.X s.heap (keyD ms) v₂ from r2)
  refine ne_dataH_same h1 h2 (shaped_tup _) (shaped_tup _) (by have := hr.2.2; omega) (noMix_tup _ _) ?_
  rw [same_tup]; exact post_bool
theorem Cp.eqL {ns ms : List Int} (hr : Room 0 F.A) : Cp F σ .Eq (.list (ns.map .int)) (.list (ms.map .int)) (decide (ns = ms)) := fun s v₁ v₂ _ r1 r2 => by
  obtain ⟨a, i1, rfl, l1, q1⟩ := r1
  obtain ⟨b, i2, rfl, l2, q2⟩ := r2
  exact ke_eq_ints (xs := i1.toList) (ys := i2.toList) (by simpa using l1) (by simpa using l2) (rdl_ints q1) (rdl_ints q2) (by have := hr.2.2; omega) post_bool

/-! ## sum, max -/
theorem preSum_take (l : List Int) : ∀ k, k ≤ l.length → preSum (fun i => l.getD i 0) k = (l.take k).sum
  | 0, _ => by simp [preSum]
  | k + 1, h => by
    rw [preSum, preSum_take l k (by omega), List.take_add_one]
    have e : l[k]? = some l[k] := List.getElem?_eq_getElem (by omega)
    rw [e, List.sum_append]
    simp only [Option.toList_some, List.sum_cons, List.sum_nil, Int.add_zero, List.getD_eq_getElem?_getD, e, Option.getD_some]
theorem Cb.sumL {l : List Int} (hr : F.A.handled = none) : Cb F σ (.builtin "sum") [.list (l.map .int)] (.int l.sum) := fun s vs S r => by
  simp only [RdL] at r
  obtain ⟨v, _, rfl, h1, rfl⟩ := r
  obtain ⟨a, items, rfl, _, hl, hq⟩ := h1.toList
  have hlt : a < s.heap.objs.size := by obtain ⟨_, e, _⟩ := hl; exact Heap.lt_size e
  refine call_sum_walkG (wpAny_pyIter_list hl ?_)
  have hn : items.size = l.length := by have := hq.length; simpa using this
  refine ⟨s.heap.objs.size, _, _, _, _, _, fun i => l.getD i 0, rfl, Walks.list (A := F.A.in1) hr _ a (Nat.ne_of_lt hlt) items, ⟨⟨_, Heap.get?_push_size _ rfl, rfl, rfl⟩, hl.push _⟩, fun b hb => ?_, fun i v hv => ?_, fun h' tk t' hk => ?_⟩
  · show b < (s.heap.push _).objs.size
    rw [Heap.size_push]
    rcases List.mem_cons.mp hb with rfl | hb
    · exact Nat.lt_succ_self _
    · obtain rfl := List.mem_singleton.mp hb; exact Nat.lt_succ_of_lt hlt
  · obtain ⟨t, e⟩ := IntsAre.int_at (rdl_ints hq) i v (by rw [Array.getElem?_toList]; exact hv)
    exact ⟨t, e⟩
  · rw [hn, preSum_take l _ (Nat.le_refl _), List.take_length]
    refine ⟨⟨h', tk, rfl, fun b o e => ?_⟩, Rd.int⟩
    refine hk b o (fun hm => ?_) (Heap.get?_push_of_some _ e)
    obtain rfl := List.mem_singleton.mp hm
    exact Nat.lt_irrefl _ (Heap.lt_size e)
theorem Cb.sumT {l : List Int} (hr : F.A.handled = none) : Cb F σ (.builtin "sum") [keyD l] (.int l.sum) := fun s vs S r => by
  simp only [RdL] at r
  obtain ⟨v, _, rfl, h1, rfl⟩ := r
  obtain ⟨a, items, rfl, ht, hq⟩ := Rd.toTup h1
  have hl : s.heap.IsTuple a items := by obtain ⟨o, ho, hc, n, hd⟩ := ht; exact ⟨o, ho, hc, n, hd⟩
  have hlt : a < s.heap.objs.size := by obtain ⟨_, e, _⟩ := hl; exact Heap.lt_size e
  refine call_sum_walkG (wpAny_pyIter_tuple hl ?_)
  have hn : items.size = l.length := by have := hq.length; simpa using this
  refine ⟨s.heap.objs.size, _, _, _, _, _, fun i => l.getD i 0, rfl, Walks.tuple (A := F.A.in1) hr _ a (Nat.ne_of_lt hlt) items, ⟨⟨_, Heap.get?_push_size _ rfl, rfl, rfl⟩, hl.at fun o e => Heap.get?_push_of_some _ e⟩, fun b hb => ?_, fun i v hv => ?_, fun h' tk t' hk => ?_⟩
  · show b < (s.heap.push _).objs.size
    rw [Heap.size_push]
    rcases List.mem_cons.mp hb with rfl | hb
    · exact Nat.lt_succ_self _
    · obtain rfl := List.mem_singleton.mp hb; exact Nat.lt_succ_of_lt hlt
  · obtain ⟨t, e⟩ := IntsAre.int_at (rdl_ints hq) i v (by rw [Array.getElem?_toList]; exact hv)
    exact ⟨t, e⟩
  · rw [hn, preSum_take l _ (Nat.le_refl _), List.take_length]
    refine ⟨⟨h', tk, rfl, fun b o e => ?_⟩, Rd.int⟩
    refine hk b o (fun hm => ?_) (Heap.get?_push_of_some _ e)
    obtain rfl := List.mem_singleton.mp hm
    exact Nat.lt_irrefl _ (Heap.lt_size e)

/-- the greatest of some ints -/
theorem Cb.maxL {l : List Int} {M : Int} (hr : F.A.handled = none) (hM : M ∈ l) (hle : ∀ a ∈ l, a ≤ M) : Cb F σ (.builtin "max") [.list (l.map .int)] (.int M) := fun s vs S r => by
  simp only [RdL] at r
  obtain ⟨v, _, rfl, h1, rfl⟩ := r
  obtain ⟨a, items, rfl, _, hl, hq⟩ := h1.toList
  have hi : IntsAre items.toList l := rdl_ints hq
  obtain ⟨xs, e⟩ := hi.allInts.items
  have e' : items = intItems xs := by simpa using e
  have hns : l = xs.toList.map (·.1) := by
    rw [← hi.numsOf, ← nums_intItems, ← e']
  have hlen : 0 < l.length := List.length_pos_of_mem hM
  have hsz : 0 < xs.size := by
    rw [hns, List.length_map, Array.length_toList] at hlen; exact hlen
  rw [e'] at hl
  refine max_intList hr hl hsz fun v h' tk hv hk => ?_
  obtain ⟨t, rfl⟩ := intItems_at hv
  obtain ⟨h1, h2⟩ := argBest_gt (numAt xs) (xs.size - 1)
  have hmem : numAt xs (argBest (fun i j => decide (numAt xs i > numAt xs j)) (xs.size - 1)) ∈ l := by
    rw [hns, numAt_eq]; exact getD_mem (by rw [List.length_map, Array.length_toList]; omega)
  have hmax : ∀ a ∈ l, a ≤ numAt xs (argBest (fun i j => decide (numAt xs i > numAt xs j)) (xs.size - 1)) := fun a ha => by
    rw [hns] at ha
    obtain ⟨j, hj, rfl⟩ := mem_getD ha
    rw [List.length_map, Array.length_toList] at hj
    rw [← numAt_eq]; exact h2 j (by omega)
  have heq := Int.le_antisymm (hle _ hmem) (hmax _ hM)
  rw [heq]
  exact ⟨⟨h', tk, rfl, hk⟩, Rd.int⟩

/-! ## list + list, tuple * int -/
theorem Ex.addL {l r : Expr} {a b : List Dt} {pos : Pos} (h1 : Ex F σ l (.list a)) (h2 : Ex F σ r (.list b)) (hsz : a.length + b.length ≤ sizeLine) : Ex F σ (.BinOp l .Add r pos) (.list (a ++ b)) := fun s S =>
  wpAny_BinOp (ev2 h1 h2 S fun v₁ v₂ s' k S' r1 r2 => by
    obtain ⟨x, i1, rfl, _, l1, q1⟩ := r1.toList
    obtain ⟨y, i2, rfl, _, l2, q2⟩ := r2.toList
    obtain ⟨⟨cls, dd, data, sl⟩, ho, hc, n, hd⟩ := id l1
    obtain ⟨⟨cls2, dd2, data2, sl2⟩, ho2, hc2, n2, hd2⟩ := id l2
    simp only at hc hd hc2 hd2
    subst hc hd hc2 hd2
    have e1 := q1.length
    have e2 := q2.length
    simp at e1 e2
    refine concat_meets ⟨_, ho, rfl⟩ ⟨_, ho2, rfl⟩ noFill_list_add seq_list_add PySem.F.slot_list_add PySem.F.entry_list_add (PySem.F.args_list_add_2 _ _) (list_addW x y i1 i2 n n2 dd dd2 sl sl2 (by omega)) ⟨ho, ho2, ?_⟩
    have kp := St.pushK (o := { cls := .type "list", data := .seq (i1 ++ i2) }) S'
    refine ⟨k.trans kp, Rd.list S'.notX ⟨_, Heap.get?_push_size _ rfl, rfl, _, rfl⟩ ?_⟩
    rw [Array.toList_append]
    have app : ∀ (a : List Dt) (u : List Value), RdL F.prog F.w σ.X s'.heap a u → RdL F.prog F.w σ.X s'.heap (a ++ b) (u ++ i2.toList) := by
      intro a
      induction a with
      | nil => intro u hu; simp only [RdL] at hu; subst hu; simpa using q2
      | cons d ds ih =>
        intro u hu
        simp only [RdL] at hu
        obtain ⟨v, w', rfl, h1, h2⟩ := hu
        simp only [List.cons_append, RdL]
        exact ⟨v, _, rfl, h1, ih _ h2⟩
    exact (app a _ q1).keep kp.k)

end
end Mine
end

section
open PySem PySem.W PyProof.Rows PySem.Calls
set_option autoImplicit false
set_option maxRecDepth 100000
namespace Mine
theorem noFill_tuple_mul : fillsNumberSlot (.type "tuple") "mul" = pure false :=
  PySem.fillsNumberSlot_seq (id := "tuple.__mul__") (r := some (.builtin "tuple.__rmul__")) PySem.F.slot_tuple_mul.lookup (by decide +kernel) PySem.F.slot_tuple_rmul.lookup (by decide +kernel)
theorem repeat_tuple : seqRepeat? (.type "tuple") = pure (some (.builtin "tuple.__mul__")) := by
  unfold seqRepeat?
  rw [PySem.seqSlot_of (T := "tuple") (name := "__mul__") (id := "tuple.__mul__") PySem.F.slot_tuple_mul.lookup (by decide +kernel), PySem.seqSlot_of (T := "tuple") (name := "__rmul__") (id := "tuple.__rmul__") PySem.F.slot_tuple_rmul.lookup (by decide +kernel)]
  rfl
theorem rmul_tuple (a : Int) (t : Tok) (l : Addr) (items : Array Value) (n : Nat) (dd : Option Addr) (sl : Array (Option Value)) :
    Meets (Builtin.«int.__rmul__» ⟨[.int a t, .ref l], []⟩) (fun _ R s => s.heap.get? l = some { cls := .type "tuple", dict := dd, data := .seq items n, slots := sl } ∧ R (.ok (.ret Value.notImplemented)) s) :=
  .of_wp fun prog w A R s h => by obtain ⟨hp, g, d, tk, os⟩ := s; obtain ⟨hl, h⟩ := h; wp_walk; exact ⟨_, rfl, h⟩
set_option maxHeartbeats 2000000 in
theorem mul_tuple (a : Int) (t : Tok) (l : Addr) (x : Value) (n : Nat) (dd : Option Addr) (sl : Array (Option Value)) (h2 : 2 ≤ a) (h4 : a ≤ 4) :
    Meets (Builtin.«tuple.__mul__» ⟨[.ref l, .int a t], []⟩) (fun _ R s => s.heap.get? l = some { cls := .type "tuple", dict := dd, data := .seq #[x] n, slots := sl } ∧
      R (.ok (.ret (.ref s.heap.objs.size))) { s with heap := s.heap.push { cls := .type "tuple", data := .seq ((List.replicate a.toNat x).toArray) } }) :=
  .of_wp fun prog w A R s h => by
    obtain ⟨hp, g, d, tk, os⟩ := s
    obtain ⟨hl, h⟩ := h
    have f1 := AutoSeq1.idx_int
    obtain rfl | rfl | rfl : a = 2 ∨ a = 3 ∨ a = 4 := by omega
    all_goals
      wp_walk using wpAny_loadPart' hl
      exact ⟨_, rfl, h⟩

section
variable {F : Fx} {σ : Ix} {s : Shared}
/-- (d,) * n -/
theorem Ex.mulT {l r : Expr} {d : Dt} {a : Int} {pos : Pos} (h1 : Ex F σ l (.tup [d])) (h2 : Ex F σ r (.int a)) (ha : 2 ≤ a ∧ a ≤ 4) : Ex F σ (.BinOp l .Mult r pos) (.tup (List.replicate a.toNat d)) := fun s S =>
  wpAny_BinOp (ev2 h1 h2 S fun v₁ v₂ s' k S' r1 r2 => by
    obtain ⟨x, i1, rfl, ⟨o, ho, hc, n, hd⟩, q1⟩ := r1.toTup
    obtain ⟨t, rfl⟩ := r2.toInt
    simp only [RdL] at q1
    obtain ⟨v, _, e, rv, rfl⟩ := q1
    have e1 : i1 = #[v] := by rw [← Array.toArray_toList (xs := i1), e]
    subst e1
    obtain ⟨cls, dd, data, sl⟩ := o
    simp only at hc hd
    subst hc hd
    refine wpAny_binaryOp_repeat_ref (T := "tuple") (U := "int") (by decide) ⟨_, ho, rfl⟩ (fun s' => typeIs_int s' a t) noFill_tuple_mul PySem.F.fills_int_mul PySem.F.slot_int_rmul repeat_tuple PySem.F.slot_int_index.lookup
      (call_meets PySem.F.slot_int_rmul (typeIs_int s' a t) PySem.F.entry_int_rmul (PySem.F.args_int_rmul_2 _ _) (rmul_tuple a t x #[v] n dd sl)
      ⟨ho, rfl, ⟨_, ho, rfl⟩, call_meets PySem.F.slot_tuple_mul ⟨_, ho, rfl⟩ PySem.F.entry_tuple_mul (PySem.F.args_tuple_mul_2 _ _) (mul_tuple a t x v n dd sl ha.1 ha.2) ⟨ho, ?_⟩⟩)
    have kp := St.pushK (o := { cls := .type "tuple", data := .seq (List.replicate a.toNat v).toArray }) S'
    refine ⟨k.trans kp, Rd.tup (IsTup.new _ _) ?_⟩
    have rep : ∀ n : Nat, RdL F.prog F.w σ.X s'.heap (List.replicate n d) (List.replicate n v) := by
      intro n
      induction n with
      | zero => simp [RdL]
      | succ n ih => simp only [List.replicate_succ, RdL]; exact ⟨v, _, rfl, rv, ih⟩
    exact (rep a.toNat).keep kp.k)
end
end Mine
end

section
open PySem PySem.W PyProof.Rows PySem.Calls
set_option autoImplicit false
set_option maxRecDepth 100000
namespace Mine

/-- dicts whose values are tuples of ints -/
noncomputable abbrev Tb := List (List Int × List Int)
noncomputable def encT (m : Tb) : List (List Int × Dt) := m.map fun e => (e.1, keyD e.2)
theorem encT_lookup (m : Tb) (k : List Int) : (encT m).lookup k = (m.lookup k).map keyD := by
  induction m with
  | nil => rfl
  | cons e m ih =>
    unfold encT at *
    rw [List.map_cons, List.lookup_cons, List.lookup_cons]
    split
    · rfl
    · exact ih
theorem encT_length (m : Tb) : (encT m).length = m.length := by simp [encT]
noncomputable def tbEq (m m' : Tb) : Bool := m.length == m'.length && m.all fun e => m'.lookup e.1 == some e.2

theorem RdD.at {prog : Program} {w : World} {X : Addr → Prop} {h : Heap} : ∀ {l : List (List Int × Dt)} {xs : List (List Int × Addr × Value)} {i : Nat} {e : List Int × Dt}, RdD prog w X h l xs → l[i]? = some e → ∃ a v, xs[i]? = some (e.1, a, v) ∧ Rd prog w X h e.2 v
  | [], xs, i, e, _, h => by simp at h
  | y :: es, xs, 0, e, x, h => by
    simp only [RdD] at x
    obtain ⟨b, u, q, rfl, h1, h2⟩ := x
    simp at h; subst h
    exact ⟨b, u, rfl, h1⟩
  | y :: es, xs, i + 1, e, x, h => by
    simp only [RdD] at x
    obtain ⟨b, u, q, rfl, h1, h2⟩ := x
    simp at h
    obtain ⟨a, v, h3, h4⟩ := RdD.at h2 h
    exact ⟨a, v, by simpa using h3, h4⟩

section
variable {prog : Program} {w : World} {A : Around} {E : Value → Shared → Prop} {s : Shared} {X : Addr → Prop}

theorem samePairs_H {nm : String} {a b : Addr} {m m' : Tb} {xa xb : List (List Int × Addr × Value)} {Q : Bool → Shared → Prop} (ha : (a == sysModules) = false) (hb : (b == sysModules) = false)
    (da : DictE prog w s.heap a xa) (db : DictE prog w s.heap b xb) (ra : RdD prog w X s.heap (encT m) xa) (rb : RdD prog w X s.heap (encT m') xb) (hu : A.units < cLine) (h : Q (tbEq m m') s) :
    wpAny (model prog w) A (Builtin.Dict.samePairs nm a b) Q E s := by
  obtain ⟨oa, es, ep, hoa, _, hda, hea, hia, hna⟩ := da
  obtain ⟨ob, es', ep', hob, _, hdb, heb, hib, hnb⟩ := db
  have hla : m.length = es.size := by rw [size_of_entries hea, ra.length, encT_length]
  have hlb : m'.length = es'.size := by rw [size_of_entries heb, rb.length, encT_length]
  unfold tbEq at h
  rw [hla, hlb] at h
  unfold Builtin.Dict.samePairs Builtin.Dict.showsAll
  rw [if_neg (show ¬ (a == sysModules) = true by rw [ha]; exact Bool.false_ne_true), if_neg (show ¬ (b == sysModules) = true by rw [hb]; exact Bool.false_ne_true)]
  refine wpAny_bind (wpAny_pure (wpAny_bind (wpAny_pure ?_)))
  refine wpAny_bind (wpAny_dictEntries hoa hda ?_)
  dsimp only
  refine wpAny_bind (wpAny_dictEntries hob hdb ?_)
  by_cases hsz : es.size = es'.size
  case neg =>
    rw [if_pos (by simpa using hsz)]
    have hbf : (es.size == es'.size) = false := by simpa using hsz
    rw [hbf, Bool.false_and] at h
    exact wpAny_bind (wpAny_rule (wpAny_pure h))
  case pos =>
    have h' : Q (m.all fun e => m'.lookup e.1 == some e.2) s := by simpa [hsz] using h
    rw [if_neg (by rw [hsz]; simp)]
    refine wpAny_bind (wpAny_dictEpoch hoa hda ?_)
    refine wpAny_bind ?_
    rw [Std.Legacy.Range.forIn_eq_forIn_range']
    simp only [Std.Legacy.Range.size, Nat.sub_zero, Nat.add_sub_cancel, Nat.div_one]
    refine wpAny_forIn_list _
      (fun rest q s' => s' = s ∧ q = (none, ()) ∧ ∃ i, rest = List.range' i (es.size - i) ∧ i ≤ es.size ∧ (m.all fun e => m'.lookup e.1 == some e.2) = ((m.drop i).all fun e => m'.lookup e.1 == some e.2))
      _ ?_ ?_ _ _ ⟨rfl, rfl, 0, by simp, Nat.zero_le _, by simp⟩
    · rintro x rest q s' ⟨rfl, rfl, i, hr, hi, hpre⟩
      have hlt : i < es.size := by
        rcases Nat.lt_or_ge i es.size with h | h
        · exact h
        · rw [Nat.sub_eq_zero_of_le h] at hr; simp at hr
      obtain ⟨rfl, hrest⟩ : x = i ∧ rest = List.range' (i + 1) (es.size - (i + 1)) := by
        have e : es.size - i = (es.size - (i + 1)) + 1 := by omega
        rw [e, List.range'_succ] at hr
        injection hr with h1 h2
        exact ⟨h1, h2⟩
      refine wpAny_bind (wpAny_dictEntries hoa hda ?_)
      have hlt' : x < m.length := by rw [hla]; exact hlt
      obtain ⟨k, ns, hkv⟩ : ∃ k ns, m[x] = (k, ns) := ⟨_, _, rfl⟩
      have hdrop : m.drop x = (k, ns) :: m.drop (x + 1) := by rw [← hkv]; exact List.drop_eq_getElem_cons hlt'
      have hmx : (encT m)[x]? = some (k, keyD ns) := by
        rw [encT, List.getElem?_map, List.getElem?_eq_getElem hlt', hkv]; rfl
      obtain ⟨ka, va, hxa, rva⟩ := RdD.at ra hmx
      rw [entry_at hea x, hxa]
      have hkey : (tupleKind (intKind prog w)).is s'.heap k ka := hia _ (List.mem_of_getElem? hxa)
      rw [hdrop] at hpre
      show wpAny _ _ (holding [Value.ref ka, va] _ >>= _) _ _ _
      refine wpAny_bind (wpAny_holding (wpAny_bind (wpAny_dictFind_heap (knd := tupleKind (intKind prog w)) hu hkey hob hdb heb hib hnb (fun hno => ?_) fun j p hj => ?_)))
      · have hn : m'.lookup k = none := by
          have hf := RdD.find (k := k) rb
          rw [encT_lookup] at hf
          cases hm : m'.lookup k with
          | none => rfl
          | some d =>
            rw [hm] at hf
            obtain ⟨p, hp, _⟩ := hf
            rw [atKey_none_of_get hno] at hp; cases hp
        rw [hpre] at h'
        simp only [List.all_cons, hn] at h'
        refine wpAny_pure ?_
        show wpAny _ _ (if (!false) = true then _ else _) _ _ _
        rw [if_pos (by decide)]
        exact wpAny_pure (wpAny_pure h')
      · have hf := RdD.find (k := k) rb
        rw [encT_lookup, atKey_of_get hnb hj] at hf
        cases hm : m'.lookup k with
        | none => rw [hm] at hf; cases hf
        | some ns' =>
          rw [hm] at hf
          obtain ⟨p', hp', rvb⟩ := hf
          cases hp'
          refine wpAny_bind (wpAny_dictEntries hob hdb ?_)
          rw [entry_at heb j, hj]
          obtain ⟨a1, rfl, k1⟩ := Rd.isKey rva
          obtain ⟨a2, e2, k2⟩ := Rd.isKey rvb
          rw [hpre] at h'
          simp only [List.all_cons, hm] at h' hpre
          show wpAny _ _ (holding [p.2] (eqBool (Value.ref a1) p.2)) _ _ _
          rw [e2]
          refine wpAny_holding (wpAny_eqBool_tuple hu k1 k2 ?_)
          by_cases hns : ns = ns'
          · subst hns
            rw [decide_eq_true rfl]
            show wpAny _ _ (if (!true) = true then _ else _) _ _ _
            rw [if_neg (by decide)]
            refine wpAny_bind (wpAny_dictEpoch hoa hda ?_)
            rw [if_neg (by simp)]
            exact wpAny_pure ⟨rfl, rfl, x + 1, hrest, hlt, by rw [hpre]; simp⟩
          · rw [decide_eq_false hns]
            have hf : ((some ns' == some ns) : Bool) = false := by simpa using fun q : ns' = ns => hns q.symm
            rw [hf, Bool.false_and] at h'
            show wpAny _ _ (if (!false) = true then _ else _) _ _ _
            rw [if_pos (by decide)]
            exact wpAny_pure (wpAny_pure h')
    · rintro q s' ⟨rfl, rfl, i, hr, hi, hpre⟩
      have hin : i = es.size := by
        rcases Nat.lt_or_ge i es.size with h | h
        · have e : es.size - i = (es.size - (i + 1)) + 1 := by omega
          rw [e, List.range'_succ] at hr; exact nomatch hr
        · exact Nat.le_antisymm hi h
      refine wpAny_pure ?_
      rw [hin, ← hla, List.drop_length] at hpre
      rw [hpre] at h'
      exact h'
end

section
variable {F : Fx} {σ : Ix} {s : Shared}
theorem Cp.neD {m m' : Tb} (hroom : Room 0 F.A) : Cp F σ .NotEq (.dict (encT m)) (.dict (encT m')) (!tbEq m m') := fun s v₁ v₂ _ r1 r2 => by
  obtain ⟨a, xa, rfl, ha2, da, ra⟩ := r1
  obtain ⟨b, xb, rfl, hb2, db, rb⟩ := r2
  refine wpAny_richCompare_same_room (op := .NotEq) da.typeIs db.typeIs PySem.F.slot_dict_ne (wpAny_call_entry PySem.F.slot_dict_ne da.typeIs PySem.F.entry_dict_ne ?_ (PySem.F.args_dict_ne_2 _ _)) (by have := hroom.2.2; omega)
  show wpAny _ _ (Builtin.Dict.dictSlotArgs "__ne__" ⟨[.ref a, .ref b], []⟩ >>= _) _ _ s
  refine wpAny_bind ?_
  unfold Builtin.Dict.dictSlotArgs
  refine wpAny_bind (wpAny_notOrdered_dict da.typeIs ?_)
  show wpAny _ _ (pure (Value.ref a, Value.ref b)) _ _ s
  refine wpAny_pure ?_
  refine wpAny_bind (wpAny_isInstance (T := "dict") db.typeIs PySem.F.sub_dict_dict ?_)
  simp only [Bool.not_true, Bool.false_eq_true, if_false]
  refine wpAny_bind (wpAny_pure (wpAny_bind (wpAny_pure ?_)))
  refine wpAny_bind (samePairs_H (beq_false_of_ne fun e => by rw [e] at ha2; exact absurd ha2 (by decide)) (beq_false_of_ne fun e => by rw [e] at hb2; exact absurd hb2 (by decide)) da db ra rb (by show F.A.units + 1 < cLine; have := hroom.2.2; omega) ?_)
  refine wpAny_pure ⟨_, rfl, ?_, ?_⟩
  · exact fun x => nomatch x
  · rw [show (tbEq m m' == false) = !tbEq m m' by cases tbEq m m' <;> rfl]; exact post_bool
end
end Mine
end

section
open PySem PySem.W PyProof.Rows PySem.Calls
set_option autoImplicit false
set_option maxRecDepth 100000
namespace Mine
theorem lk_list_keys : typeLookup (.type "list") "keys" = pure none := by rw [typeLookup_type, builtinLookup_eq_fast]; kernel_rfl
section
variable {prog : Program} {w : World} {A : Around} {E : Value → Shared → Prop}
theorem keys_none {s : Shared} {a : Addr} {items : Array Value} {n : Nat} {Q : Option Value → Shared → Prop} (hx : s.heap.get? a = some { cls := .type "list", data := .seq items n }) (hA : A.handled = none)
    (h : ∀ h' tk, (∀ b o, s.heap.get? b = some o → h'.get? b = some o) → Q none { s with heap := h', toks := tk }) : wpAny (model prog w) A (getAttr? (.ref a) "keys") Q E s := by
  obtain ⟨hp, g, d, tk, os⟩ := s
  have hT : ∀ tk', (⟨hp, g, d, tk', os⟩ : Shared).TypeIs (.ref a) "list" := fun _ => ⟨_, hx, rfl⟩
  have f1 := sub_AttributeError
  have f3 := PySem.F.slot_list_getattribute.lookup
  have f4 := PySem.F.slot_list_getattribute.bind (.ref a)
  have f5 := am_list_getattr_none
  unfold getAttr? getAttrBy? getAttrBy
  repeat (any_goals (first | assumption | exact hT _ | ((with_reducible show wpAny _ _ (call (Value.builtin "list.__getattribute__") _ _) _ _ _); refine call_meets PySem.F.slot_list_getattribute (hT _) am_entry_list_getattribute (PySem.F.args_list_getattribute_2 _ _) (meets_getattribute_miss_list a items n #[] "keys" _ lk_list_keys (by decide +kernel) (by decide +kernel)) ⟨hx, hA, fun h' tk' e hx' => ?_⟩) | wp_step))
  obtain ⟨t', u', he⟩ := hx'.there
  show wpAny _ _ (getattributeRaised _ _ _ _ _ _ _) _ _ _
  unfold getattributeRaised
  repeat (any_goals (first | assumption | wp_step))
  exact h _ _ hx'.of.keeps

theorem entry_dict_update_loop : entryFor table "dict.update.loop" = some Builtin.«dict.update.loop» := entryFor_of_tree (by kernel_rfl)
theorem plain_dict_update_loop : plainId "dict.update.loop" = true := by decide +kernel

noncomputable def pairsD (ps : List (List Int × Dt)) : List Dt := ps.map fun e => .tup [keyD e.1, e.2]

theorem loop_dict {R : Result → Shared → Prop} {X : Addr → Prop} {I l D : Addr} {items : Array Value} {ps : List (List Int × Dt)} (hh : A.handled = none) (hlI : l ≠ I) (hDl : D ≠ l) (hDI : D ≠ I) (hX : X D) (hD2 : 2 < D) (hu : A.units + 1 < cLine) (hsz : ps.length ≤ sizeLine) :
    ∀ (k i : Nat) (s : Shared) (xs : List (List Int × Addr × Value)), items.size - i = k → i ≤ items.size → s.heap.IsListIter I l i → s.heap.IsList l items → RdL prog w X s.heap (pairsD ps) items.toList → DictE prog w s.heap D xs →
      RdD prog w X s.heap (dbuild (ps.take i)) xs →
      (∀ h' tk xs', (∀ b o, b ≠ D → b ≠ I → s.heap.get? b = some o → h'.get? b = some o) → DictE prog w h' D xs' → RdD prog w X h' (dbuild ps) xs' → R (.ok (.ret .none)) { s with heap := h', toks := tk }) →
      codeAny (model prog w) A (.builtin "dict.update.loop" ⟨[.ref D, .ref I, rawInt i, .none], []⟩) R s := by
  intro k
  have W := Walks.list (prog := prog) (w := w) (A := A.in1) (by simpa using hh) I l hlI items
  induction k with
  | zero =>
    intro i s xs hk hi hit hl hr hd hx hR
    have hin : i = items.size := by omega
    subst hin
    have hlen : items.size = ps.length := by have := hr.length; simpa [pairsD] using this
    refine codeAny_builtin entry_dict_update_loop ?_
    rw [Around.under_plainId plain_dict_update_loop _]
    unfold Builtin.«dict.update.loop»
    refine wpAny_bind (W.done s _ _ ⟨hit, hl⟩ fun h' tk hk => ?_)
    have keep : ∀ b o, b ≠ D → b ≠ I → s.heap.get? b = some o → h'.get? b = some o := fun b o _ hb e => hk b o (by simpa using hb) e
    obtain ⟨oi, hoi, hci, _⟩ := id hit
    have kr : KeepR X s.heap h' := fun b o e q => by
      by_cases hb : b = I
      · subst hb
        rw [hoi] at e; cases e
        exact absurd q (NoRd.of hci (by decide)).not
      · exact hk b o (by simpa using hb) e
    have hDE : DictE prog w h' D xs := by
      obtain ⟨o, es, ep, ho, hc, hdd, he, hks, hn⟩ := hd
      refine ⟨o, es, ep, hk _ _ (by simpa using hDI) ho, hc, hdd, he, fun y hy => ?_, hn⟩
      obtain ⟨o', it', n', ho', hc', hd', hi'⟩ := hks y hy
      exact ⟨o', it', n', kr _ _ ho' (.inl ⟨hc', it', n', hd'⟩), hc', hd', hi'⟩
    refine wpAny_bind (wpAny_pure ?_)
    refine wpAny_pure (hR h' _ xs keep hDE ?_)
    have e : dbuild (ps.take items.size) = dbuild ps := by rw [hlen, List.take_length]
    rw [← e]
    exact hx.keepR kr
  | succ k ih =>
    intro i s xs hk hi hit hl hr hd hx hR
    have hlt : i < items.size := by omega
    have hlen : items.size = ps.length := by have := hr.length; simpa [pairsD] using this
    have hip : i < ps.length := by omega
    refine codeAny_builtin entry_dict_update_loop ?_
    rw [Around.under_plainId plain_dict_update_loop _]
    unfold Builtin.«dict.update.loop»
    refine wpAny_bind (W.item i s _ _ hlt ⟨hit, hl⟩ fun v h₁ tk₁ hP hst hk₁ => ?_)
    obtain ⟨hit₁, hl₁⟩ := hst
    obtain ⟨oi, hoi, hci, _⟩ := id hit
    have kr : KeepR X s.heap h₁ := fun b o e q => by
      by_cases hb : b = I
      · subst hb
        rw [hoi] at e; cases e
        exact absurd q (NoRd.of hci (by decide)).not
      · exact hk₁ b o (by simpa using hb) e
    have hDE : DictE prog w h₁ D xs := by
      obtain ⟨o, es, ep, ho, hc, hdd, he, hks, hn⟩ := hd
      refine ⟨o, es, ep, hk₁ _ _ (by simpa using hDI) ho, hc, hdd, he, fun y hy => ?_, hn⟩
      obtain ⟨o', it', n', ho', hc', hd', hi'⟩ := hks y hy
      exact ⟨o', it', n', kr _ _ ho' (.inl ⟨hc', it', n', hd'⟩), hc', hd', hi'⟩
    have hx₁ := hx.keepR kr
    have hr₁ := hr.keepR kr
    have hpi : (pairsD ps)[i]? = some (.tup [keyD ps[i].1, ps[i].2]) := by simp [pairsD, hip]
    obtain ⟨v', hv', rv⟩ := RdL.get hr₁ hpi
    have : v' = v := by
      have e : items.toList[i]? = some v := by simpa using hP
      rw [hv'] at e; exact Option.some.inj e
    subst this
    obtain ⟨t, its, rfl, ⟨ot, hot, hct, nt, hdt⟩, hrt⟩ := rv.toTup
    simp only [RdL] at hrt
    obtain ⟨kv, _, e, rk, vv, _, rfl, rvv, rfl⟩ := hrt
    dsimp only
    refine wpAny_bind (wpAny_holding (wpAny_bind (wpAny_tryCatch ?_)))
    unfold Builtin.Dict.pairItems
    refine wpAny_bind (wpAny_typeOf (T := "tuple") ⟨ot, hot, hct⟩ ?_)
    rw [if_pos (by decide)]
    refine wpAny_bind (wpAny_seqItems hot hdt (wpAny_pure ?_))
    simp only [Option.getD_some]
    rw [e]
    dsimp only
    obtain ⟨ka, rfl, hkey⟩ := Rd.isKey rk
    refine wpAny_holding ?_
    have hxl : xs.length ≤ sizeLine := by
      have h1 := hx.length
      have h2 := dbuild_length (ps.take i)
      have h3 : (ps.take i).length ≤ ps.length := by rw [List.length_take]; omega
      omega
    refine wpAny_dictSet_heap (hsz := hxl) (knd := tupleKind (intKind prog w)) (k := ps[i].1) hu hkey hDE fun h₂ hD₂ hs₂ => ?_
    have rcD : RdC prog w X h₁ (.dict (dbuild (ps.take i))) (.ref D) := ⟨D, xs, rfl, hD2, hDE, hx₁⟩
    have kr₂ := sameX hs₂ hX .d rcD
    have hstore : RdD prog w X h₂ (dbuild (ps.take (i + 1))) (storedH xs ps[i].1 ka vv) := by
      have e : ps.take (i + 1) = ps.take i ++ [(ps[i].1, ps[i].2)] := by
        rw [List.take_add_one, List.getElem?_eq_getElem hip]; rfl
      rw [e, dbuild_snoc]
      exact (hx₁.keepR kr₂).stored (rvv.keepR kr₂)
    refine wpAny_pure ⟨plainId_quiet plain_dict_update_loop _, ?_⟩
    refine ih (i + 1) { s with heap := h₂, toks := _ } _ (by omega) hlt (hit₁.at fun o e => by rw [hs₂.2 I (Ne.symm hDI)]; exact e) (hl₁.at fun o e => by rw [hs₂.2 l (Ne.symm hDl)]; exact e) (hr₁.keepR kr₂) hD₂ hstore fun h' tk xs' hkk hDE' hx' => ?_
    exact hR h' tk xs' (fun b o h1 h2 e => hkk b o h1 h2 (by show h₂.get? b = some o; rw [hs₂.2 b h1]; exact hk₁ b o (by simpa using h2) e)) hDE' hx'
end
end Mine
end

section
open PySem PySem.W PyProof.Rows PySem.Calls
set_option autoImplicit false
set_option maxRecDepth 100000
namespace Mine

section
variable {prog : Program} {w : World} {A : Around} {E : Value → Shared → Prop}
theorem call_dict_pairs {s : Shared} {X : Addr → Prop} {l : Addr} {items : Array Value} {ps : List (List Int × Dt)} {Q : Value → Shared → Prop} (hh : A.handled = none) (hu : A.units + 8 < cLine) (hl : s.heap.PlainList l items) (hX : ∀ a, X a → ∃ o, s.heap.get? a = some o)
    (hz : 2 < s.heap.objs.size) (hr : RdL prog w X s.heap (pairsD ps) items.toList) (hsz : ps.length ≤ sizeLine)
    (h : ∀ h' tk xs, (∀ b o, s.heap.get? b = some o → h'.get? b = some o) → DictE prog w h' s.heap.objs.size xs → RdD prog w (fun a => X a ∨ a = s.heap.objs.size) h' (dbuild ps) xs → Q (.ref s.heap.objs.size) { s with heap := h', toks := tk }) :
    wpAny (model prog w) A (call (.type "dict") [.ref l]) Q E s := by
  refine callType_codes (Q₁ := fun obj s₁ => obj = .ref s.heap.objs.size ∧ s₁ = { s with heap := s.heap.push { cls := .type "dict", data := .dict #[] } }) PySem.F.kt_called_dict (PySem.F.kt_typeCall_dict_1 _) PySem.F.entry_dict_init (kt_code_dict_new _ ⟨rfl, rfl⟩) ?_
  rintro obj s₁ ⟨rfl, rfl⟩
  have hnew : DictE prog w (s.heap.push { cls := .type "dict", data := .dict #[] }) s.heap.objs.size [] := ⟨_, #[], _, Heap.get?_push_size _ rfl, ⟨rfl, rfl, rfl⟩, rfl, rfl, by simp, by simp⟩
  have kp : ∀ b o, s.heap.get? b = some o → (s.heap.push { cls := .type "dict", data := .dict #[] }).get? b = some o := fun b o e => Heap.get?_push_of_some _ e
  have hl₁ : (s.heap.push { cls := .type "dict", data := .dict #[] }).PlainList l items := hl.at (kp l)
  have hlt : l < s.heap.objs.size := by obtain ⟨n, e⟩ := hl; exact Heap.lt_size e
  have hD0 : s.heap.get? s.heap.objs.size = none := notAt (Nat.le_refl _)
  refine ⟨hnew.typeIs, PySem.F.args_dict_init_2 _ _, ?_⟩
  unfold Builtin.«dict.__init__»
  refine wpAny_bind ?_
  unfold Builtin.Dict.selfAndRest
  refine wpAny_bind (wpAny_notOrdered_dict hnew.typeIs ?_)
  show wpAny _ _ (pure (s.heap.objs.size, [Value.ref l])) _ _ _
  refine wpAny_pure ?_
  show wpAny _ _ (Builtin.Dict.updateFrom "dict.__init__" s.heap.objs.size (.ref l) [] .none) _ _ _
  unfold Builtin.Dict.updateFrom
  refine wpAny_bind (wpAny_typeOf hl₁.isList.typeIs ?_)
  rw [if_pos (by decide)]
  obtain ⟨n, hln⟩ := id hl₁
  refine wpAny_bind (keys_none hln (by simpa using hh) fun h₂ tk₂ hk₂ => ?_)
  simp only [Option.isNone_none, if_true]
  refine wpAny_bind (wpAny_rule ?_)
  have hl₂ : h₂.IsList l items := (hl₁.at (hk₂ l)).isList
  have hD₂ : DictE prog w h₂ s.heap.objs.size [] := hnew.keep hk₂
  refine wpAny_bind (wpAny_pyIter_list (s := { s with heap := h₂, toks := tk₂ }) hl₂ ?_)
  have hI : s.heap.objs.size < h₂.objs.size := by
    obtain ⟨o, _, _, e, _⟩ := hD₂; exact Heap.lt_size e
  have kq : ∀ b o, h₂.get? b = some o → (h₂.push { cls := .type "list_iterator", data := .fields #[.ref l, .int 0 0] }).get? b = some o := fun b o e => Heap.get?_push_of_some _ e
  have kall : ∀ b o, s.heap.get? b = some o → (h₂.push { cls := .type "list_iterator", data := .fields #[.ref l, .int 0 0] }).get? b = some o := fun b o e => kq b o (hk₂ b o (kp b o e))
  refine wpAny_pure ⟨plainId_quiet plain_dict_update_loop _, ?_⟩
  refine loop_dict (X := fun a => X a ∨ a = s.heap.objs.size) (I := h₂.objs.size) (l := l) (D := s.heap.objs.size) (items := items) (ps := ps) (by simpa using hh) (Nat.ne_of_lt (Nat.lt_trans hlt hI)) (Nat.ne_of_gt hlt) (Nat.ne_of_lt hI) (.inr rfl) hz (by show A.units + 1 + 1 < cLine; omega) hsz (items.size - 0) 0 _ [] rfl (Nat.zero_le _)
    ⟨_, Heap.get?_push_size _ rfl, rfl, rfl⟩ (hl₂.push _) ((hr.sub fun a ha => ha.imp id fun q => by rw [show a = _ from q]; exact hD0).keep kall) (hD₂.keep kq) (by simp [dbuild, RdD]) fun h' tk xs' hkk hDE hx => ?_
  refine ⟨rfl, ?_⟩
  refine h h' tk xs' (fun b o e => hkk b o (fun q => ?_) (fun q => ?_) (kall b o e)) hDE hx
  · rw [q, hD0] at e; cases e
  · have := Heap.lt_size e
    rw [q] at this
    exact Nat.lt_irrefl _ (Nat.lt_trans this hI)
end

section
variable {F : Fx} {σ : Ix} {s : Shared}
/-- dict([(k, v), …]) -/
theorem ExN.dictL {e : Expr} {ps : List (List Int × Dt)} {p pos : Pos} (he : Ex F σ e (.plist (pairsD ps))) (hroom : Room 0 F.A) (hk : F.env.kindOf "dict" = some .globalImplicit) (hsz : ps.length ≤ sizeLine)
    (hse : ∀ env, starEach [e] env = [(false, eval e env)] := by intro _; rfl) :
    ExN F σ (.Call (.Name "dict" p) [e] [] pos) (.dict (dbuild ps)) := fun s S => by
  refine wpAny_Call_ofName (ldB S hk (v := .type "dict") (by decide) (by rfl) ?_)
  refine PySem.callWith_type (by rw [hse]; rfl) ?_
  rw [hse]
  refine evalArgs_plain (spliced_cons (wpAny_mono (he s S) (fun v s₁ ⟨k1, r1⟩ => spliced_nil ?_) fun _ _ e => e))
  have S₁ := S.keeps k1
  have r1' : ∃ a items, v = .ref a ∧ ¬ σ.X a ∧ s₁.heap.PlainList a items ∧ RdL F.prog F.w σ.X s₁.heap (pairsD ps) items.toList := by simpa only [Rd] using r1
  obtain ⟨a, items, rfl, _, hl, hr⟩ := r1'
  refine call_dict_pairs hroom.1 (by have := hroom.2.2; omega) hl S₁.xin S₁.size2 hr hsz fun h' tk xs hk hD hx => ?_
  have kp : Kp s₁ { s₁ with heap := h', toks := tk } := ⟨h', tk, rfl, hk⟩
  exact ⟨k1.trans kp, _, rfl, get_none k1.k (Nat.le_refl _), ⟨_, xs, rfl, S₁.size2, hD, hx⟩⟩
end
end Mine
end

section
open PySem PySem.W PyProof.Rows PySem.Calls
set_option autoImplicit false
set_option maxRecDepth 100000
namespace Mine

section
variable {i k : Nat} {F : Fx}
theorem FnCtx.gl (c : FnCtx i k F) {x : Str} (h : ((dfAt i).scope.names.lookup x == some .globalImplicit) = true) : F.env.kindOf x = some .globalImplicit := (c.names.k x).trans (by simpa using h)
theorem FnCtx.lo (c : FnCtx i k F) {x : Str} (h : (!(x == ("__debug__" : Str)) && (dfAt i).scope.names.lookup x == some .local) = true) : (x == ("__debug__" : Str)) = false ∧ F.env.kindOf x = some .local := by
  simp only [Bool.and_eq_true, Bool.not_eq_true', beq_iff_eq] at h
  exact ⟨h.1, (c.names.k x).trans h.2⟩
theorem FnCtx.ow (c : FnCtx i k F) {x : Str} (h : (!(x == ("__debug__" : Str)) && ((dfAt i).scope.names.lookup x == some .local || (dfAt i).scope.names.lookup x == some .cell)) = true) : Own F.env x := c.names.own h
theorem FnCtx.fn (c : FnCtx i k F) : F.env.scope.kind = .function := c.names.f
variable {a : Addr}
theorem FnCtxW.gl (c : FnCtxW i k a F) {x : Str} (h : ((dfAt i).scope.names.lookup x == some .globalImplicit) = true) : F.env.kindOf x = some .globalImplicit := (c.names.k x).trans (by simpa using h)
theorem FnCtxW.lo (c : FnCtxW i k a F) {x : Str} (h : (!(x == ("__debug__" : Str)) && (dfAt i).scope.names.lookup x == some .local) = true) : (x == ("__debug__" : Str)) = false ∧ F.env.kindOf x = some .local := by
  simp only [Bool.and_eq_true, Bool.not_eq_true', beq_iff_eq] at h
  exact ⟨h.1, (c.names.k x).trans h.2⟩
theorem FnCtxW.ow (c : FnCtxW i k a F) {x : Str} (h : (!(x == ("__debug__" : Str)) && ((dfAt i).scope.names.lookup x == some .local || (dfAt i).scope.names.lookup x == some .cell)) = true) : Own F.env x := c.names.own h
theorem FnCtxW.fn (c : FnCtxW i k a F) : F.env.scope.kind = .function := c.names.f
variable {names : List (Str × NameKind)}
theorem InComp.gl (c : InComp F names) {x : Str} (h : (names.lookup x == some .globalImplicit) = true) : F.env.kindOf x = some .globalImplicit := c.kof.g x (by simpa using h)
theorem InComp.lo (c : InComp F names) {x : Str} (h : (!(x == ("__debug__" : Str)) && names.lookup x == some .local) = true) : (x == ("__debug__" : Str)) = false ∧ F.env.kindOf x = some .local := by
  simp only [Bool.and_eq_true, Bool.not_eq_true', beq_iff_eq] at h
  exact ⟨h.1, c.loc x h.2⟩
end

theorem noΩ {X : Addr → Prop} {Γ : List (Str × Option Dt)} {x : Str} : NoΩ ⟨X, Γ, []⟩ x := fun _ h => by cases h
theorem noΩ1 {X : Addr → Prop} {Γ : List (Str × Option Dt)} {x y : Str} {c : Addr} {d : Dt} (h : (y == x) = false) : NoΩ ⟨X, Γ, [(y, c, d)]⟩ x := fun _ hm => by
  obtain rfl := List.mem_singleton.mp hm
  simpa using h
theorem bare {x : Str} {Γ : List (Str × Option Dt)} (h : (Γ.all fun p => p.2.isNone || !(p.1 == x)) = true) : Bare x Γ := fun d hm => by
  have := List.all_eq_true.mp h _ hm
  simp at this
theorem m0 {p : Str × Option Dt} {l : List (Str × Option Dt)} : p ∈ p :: l := List.mem_cons_self
theorem s0 {x : Str} {o : Option Dt} {d : Dt}  {l : List (Str × Option Dt)} : SetAt x d ((x, o) :: l) ((x, some d) :: l) := SetAt.head
theorem m1 {p a0 : Str × Option Dt} {l : List (Str × Option Dt)} : p ∈ a0 :: p :: l := List.mem_cons_of_mem _ (List.mem_cons_self)
theorem s1 {x : Str} {o : Option Dt} {d : Dt} {a0 : Str × Option Dt} {l : List (Str × Option Dt)} : SetAt x d (a0 :: (x, o) :: l) (a0 :: (x, some d) :: l) := SetAt.tail (SetAt.head)
theorem m2 {p a0 a1 : Str × Option Dt} {l : List (Str × Option Dt)} : p ∈ a0 :: a1 :: p :: l := List.mem_cons_of_mem _ (List.mem_cons_of_mem _ (List.mem_cons_self))
theorem s2 {x : Str} {o : Option Dt} {d : Dt} {a0 a1 : Str × Option Dt} {l : List (Str × Option Dt)} : SetAt x d (a0 :: a1 :: (x, o) :: l) (a0 :: a1 :: (x, some d) :: l) := SetAt.tail (SetAt.tail (SetAt.head))
theorem m3 {p a0 a1 a2 : Str × Option Dt} {l : List (Str × Option Dt)} : p ∈ a0 :: a1 :: a2 :: p :: l := List.mem_cons_of_mem _ (List.mem_cons_of_mem _ (List.mem_cons_of_mem _ (List.mem_cons_self)))
theorem s3 {x : Str} {o : Option Dt} {d : Dt} {a0 a1 a2 : Str × Option Dt} {l : List (Str × Option Dt)} : SetAt x d (a0 :: a1 :: a2 :: (x, o) :: l) (a0 :: a1 :: a2 :: (x, some d) :: l) := SetAt.tail (SetAt.tail (SetAt.tail (SetAt.head)))
theorem m4 {p a0 a1 a2 a3 : Str × Option Dt} {l : List (Str × Option Dt)} : p ∈ a0 :: a1 :: a2 :: a3 :: p :: l := List.mem_cons_of_mem _ (List.mem_cons_of_mem _ (List.mem_cons_of_mem _ (List.mem_cons_of_mem _ (List.mem_cons_self))))
theorem s4 {x : Str} {o : Option Dt} {d : Dt} {a0 a1 a2 a3 : Str × Option Dt} {l : List (Str × Option Dt)} : SetAt x d (a0 :: a1 :: a2 :: a3 :: (x, o) :: l) (a0 :: a1 :: a2 :: a3 :: (x, some d) :: l) := SetAt.tail (SetAt.tail (SetAt.tail (SetAt.tail (SetAt.head))))
theorem m5 {p a0 a1 a2 a3 a4 : Str × Option Dt} {l : List (Str × Option Dt)} : p ∈ a0 :: a1 :: a2 :: a3 :: a4 :: p :: l := List.mem_cons_of_mem _ (List.mem_cons_of_mem _ (List.mem_cons_of_mem _ (List.mem_cons_of_mem _ (List.mem_cons_of_mem _ (List.mem_cons_self)))))
theorem s5 {x : Str} {o : Option Dt} {d : Dt} {a0 a1 a2 a3 a4 : Str × Option Dt} {l : List (Str × Option Dt)} : SetAt x d (a0 :: a1 :: a2 :: a3 :: a4 :: (x, o) :: l) (a0 :: a1 :: a2 :: a3 :: a4 :: (x, some d) :: l) := SetAt.tail (SetAt.tail (SetAt.tail (SetAt.tail (SetAt.tail (SetAt.head)))))
theorem m6 {p a0 a1 a2 a3 a4 a5 : Str × Option Dt} {l : List (Str × Option Dt)} : p ∈ a0 :: a1 :: a2 :: a3 :: a4 :: a5 :: p :: l := List.mem_cons_of_mem _ (List.mem_cons_of_mem _ (List.mem_cons_of_mem _ (List.mem_cons_of_mem _ (List.mem_cons_of_mem _ (List.mem_cons_of_mem _ (List.mem_cons_self))))))
theorem s6 {x : Str} {o : Option Dt} {d : Dt} {a0 a1 a2 a3 a4 a5 : Str × Option Dt} {l : List (Str × Option Dt)} : SetAt x d (a0 :: a1 :: a2 :: a3 :: a4 :: a5 :: (x, o) :: l) (a0 :: a1 :: a2 :: a3 :: a4 :: a5 :: (x, some d) :: l) := SetAt.tail (SetAt.tail (SetAt.tail (SetAt.tail (SetAt.tail (SetAt.tail (SetAt.head))))))
theorem m7 {p a0 a1 a2 a3 a4 a5 a6 : Str × Option Dt} {l : List (Str × Option Dt)} : p ∈ a0 :: a1 :: a2 :: a3 :: a4 :: a5 :: a6 :: p :: l := List.mem_cons_of_mem _ (List.mem_cons_of_mem _ (List.mem_cons_of_mem _ (List.mem_cons_of_mem _ (List.mem_cons_of_mem _ (List.mem_cons_of_mem _ (List.mem_cons_of_mem _ (List.mem_cons_self)))))))
theorem s7 {x : Str} {o : Option Dt} {d : Dt} {a0 a1 a2 a3 a4 a5 a6 : Str × Option Dt} {l : List (Str × Option Dt)} : SetAt x d (a0 :: a1 :: a2 :: a3 :: a4 :: a5 :: a6 :: (x, o) :: l) (a0 :: a1 :: a2 :: a3 :: a4 :: a5 :: a6 :: (x, some d) :: l) := SetAt.tail (SetAt.tail (SetAt.tail (SetAt.tail (SetAt.tail (SetAt.tail (SetAt.tail (SetAt.head)))))))
theorem m8 {p a0 a1 a2 a3 a4 a5 a6 a7 : Str × Option Dt} {l : List (Str × Option Dt)} : p ∈ a0 :: a1 :: a2 :: a3 :: a4 :: a5 :: a6 :: a7 :: p :: l := List.mem_cons_of_mem _ (List.mem_cons_of_mem _ (List.mem_cons_of_mem _ (List.mem_cons_of_mem _ (List.mem_cons_of_mem _ (List.mem_cons_of_mem _ (List.mem_cons_of_mem _ (List.mem_cons_of_mem _ (List.mem_cons_self))))))))
theorem s8 {x : Str} {o : Option Dt} {d : Dt} {a0 a1 a2 a3 a4 a5 a6 a7 : Str × Option Dt} {l : List (Str × Option Dt)} : SetAt x d (a0 :: a1 :: a2 :: a3 :: a4 :: a5 :: a6 :: a7 :: (x, o) :: l) (a0 :: a1 :: a2 :: a3 :: a4 :: a5 :: a6 :: a7 :: (x, some d) :: l) := SetAt.tail (SetAt.tail (SetAt.tail (SetAt.tail (SetAt.tail (SetAt.tail (SetAt.tail (SetAt.tail (SetAt.head))))))))
theorem m9 {p a0 a1 a2 a3 a4 a5 a6 a7 a8 : Str × Option Dt} {l : List (Str × Option Dt)} : p ∈ a0 :: a1 :: a2 :: a3 :: a4 :: a5 :: a6 :: a7 :: a8 :: p :: l := List.mem_cons_of_mem _ (List.mem_cons_of_mem _ (List.mem_cons_of_mem _ (List.mem_cons_of_mem _ (List.mem_cons_of_mem _ (List.mem_cons_of_mem _ (List.mem_cons_of_mem _ (List.mem_cons_of_mem _ (List.mem_cons_of_mem _ (List.mem_cons_self)))))))))
theorem s9 {x : Str} {o : Option Dt} {d : Dt} {a0 a1 a2 a3 a4 a5 a6 a7 a8 : Str × Option Dt} {l : List (Str × Option Dt)} : SetAt x d (a0 :: a1 :: a2 :: a3 :: a4 :: a5 :: a6 :: a7 :: a8 :: (x, o) :: l) (a0 :: a1 :: a2 :: a3 :: a4 :: a5 :: a6 :: a7 :: a8 :: (x, some d) :: l) := SetAt.tail (SetAt.tail (SetAt.tail (SetAt.tail (SetAt.tail (SetAt.tail (SetAt.tail (SetAt.tail (SetAt.tail (SetAt.head)))))))))
theorem m10 {p a0 a1 a2 a3 a4 a5 a6 a7 a8 a9 : Str × Option Dt} {l : List (Str × Option Dt)} : p ∈ a0 :: a1 :: a2 :: a3 :: a4 :: a5 :: a6 :: a7 :: a8 :: a9 :: p :: l := List.mem_cons_of_mem _ (List.mem_cons_of_mem _ (List.mem_cons_of_mem _ (List.mem_cons_of_mem _ (List.mem_cons_of_mem _ (List.mem_cons_of_mem _ (List.mem_cons_of_mem _ (List.mem_cons_of_mem _ (List.mem_cons_of_mem _ (List.mem_cons_of_mem _ (List.mem_cons_self))))))))))
theorem s10 {x : Str} {o : Option Dt} {d : Dt} {a0 a1 a2 a3 a4 a5 a6 a7 a8 a9 : Str × Option Dt} {l : List (Str × Option Dt)} : SetAt x d (a0 :: a1 :: a2 :: a3 :: a4 :: a5 :: a6 :: a7 :: a8 :: a9 :: (x, o) :: l) (a0 :: a1 :: a2 :: a3 :: a4 :: a5 :: a6 :: a7 :: a8 :: a9 :: (x, some d) :: l) := SetAt.tail (SetAt.tail (SetAt.tail (SetAt.tail (SetAt.tail (SetAt.tail (SetAt.tail (SetAt.tail (SetAt.tail (SetAt.tail (SetAt.head))))))))))
theorem m11 {p a0 a1 a2 a3 a4 a5 a6 a7 a8 a9 a10 : Str × Option Dt} {l : List (Str × Option Dt)} : p ∈ a0 :: a1 :: a2 :: a3 :: a4 :: a5 :: a6 :: a7 :: a8 :: a9 :: a10 :: p :: l := List.mem_cons_of_mem _ (List.mem_cons_of_mem _ (List.mem_cons_of_mem _ (List.mem_cons_of_mem _ (List.mem_cons_of_mem _ (List.mem_cons_of_mem _ (List.mem_cons_of_mem _ (List.mem_cons_of_mem _ (List.mem_cons_of_mem _ (List.mem_cons_of_mem _ (List.mem_cons_of_mem _ (List.mem_cons_self)))))))))))
theorem s11 {x : Str} {o : Option Dt} {d : Dt} {a0 a1 a2 a3 a4 a5 a6 a7 a8 a9 a10 : Str × Option Dt} {l : List (Str × Option Dt)} : SetAt x d (a0 :: a1 :: a2 :: a3 :: a4 :: a5 :: a6 :: a7 :: a8 :: a9 :: a10 :: (x, o) :: l) (a0 :: a1 :: a2 :: a3 :: a4 :: a5 :: a6 :: a7 :: a8 :: a9 :: a10 :: (x, some d) :: l) := SetAt.tail (SetAt.tail (SetAt.tail (SetAt.tail (SetAt.tail (SetAt.tail (SetAt.tail (SetAt.tail (SetAt.tail (SetAt.tail (SetAt.tail (SetAt.head)))))))))))
theorem m12 {p a0 a1 a2 a3 a4 a5 a6 a7 a8 a9 a10 a11 : Str × Option Dt} {l : List (Str × Option Dt)} : p ∈ a0 :: a1 :: a2 :: a3 :: a4 :: a5 :: a6 :: a7 :: a8 :: a9 :: a10 :: a11 :: p :: l := List.mem_cons_of_mem _ (List.mem_cons_of_mem _ (List.mem_cons_of_mem _ (List.mem_cons_of_mem _ (List.mem_cons_of_mem _ (List.mem_cons_of_mem _ (List.mem_cons_of_mem _ (List.mem_cons_of_mem _ (List.mem_cons_of_mem _ (List.mem_cons_of_mem _ (List.mem_cons_of_mem _ (List.mem_cons_of_mem _ (List.mem_cons_self))))))))))))
theorem s12 {x : Str} {o : Option Dt} {d : Dt} {a0 a1 a2 a3 a4 a5 a6 a7 a8 a9 a10 a11 : Str × Option Dt} {l : List (Str × Option Dt)} : SetAt x d (a0 :: a1 :: a2 :: a3 :: a4 :: a5 :: a6 :: a7 :: a8 :: a9 :: a10 :: a11 :: (x, o) :: l) (a0 :: a1 :: a2 :: a3 :: a4 :: a5 :: a6 :: a7 :: a8 :: a9 :: a10 :: a11 :: (x, some d) :: l) := SetAt.tail (SetAt.tail (SetAt.tail (SetAt.tail (SetAt.tail (SetAt.tail (SetAt.tail (SetAt.tail (SetAt.tail (SetAt.tail (SetAt.tail (SetAt.tail (SetAt.head))))))))))))
theorem m13 {p a0 a1 a2 a3 a4 a5 a6 a7 a8 a9 a10 a11 a12 : Str × Option Dt} {l : List (Str × Option Dt)} : p ∈ a0 :: a1 :: a2 :: a3 :: a4 :: a5 :: a6 :: a7 :: a8 :: a9 :: a10 :: a11 :: a12 :: p :: l := List.mem_cons_of_mem _ (List.mem_cons_of_mem _ (List.mem_cons_of_mem _ (List.mem_cons_of_mem _ (List.mem_cons_of_mem _ (List.mem_cons_of_mem _ (List.mem_cons_of_mem _ (List.mem_cons_of_mem _ (List.mem_cons_of_mem _ (List.mem_cons_of_mem _ (List.mem_cons_of_mem _ (List.mem_cons_of_mem _ (List.mem_cons_of_mem _ (List.mem_cons_self)))))))))))))
theorem s13 {x : Str} {o : Option Dt} {d : Dt} {a0 a1 a2 a3 a4 a5 a6 a7 a8 a9 a10 a11 a12 : Str × Option Dt} {l : List (Str × Option Dt)} : SetAt x d (a0 :: a1 :: a2 :: a3 :: a4 :: a5 :: a6 :: a7 :: a8 :: a9 :: a10 :: a11 :: a12 :: (x, o) :: l) (a0 :: a1 :: a2 :: a3 :: a4 :: a5 :: a6 :: a7 :: a8 :: a9 :: a10 :: a11 :: a12 :: (x, some d) :: l) := SetAt.tail (SetAt.tail (SetAt.tail (SetAt.tail (SetAt.tail (SetAt.tail (SetAt.tail (SetAt.tail (SetAt.tail (SetAt.tail (SetAt.tail (SetAt.tail (SetAt.tail (SetAt.head)))))))))))))

section
variable {F : Fx} {σ : Ix}
theorem Ex.abs {e : Expr} {i : Int} {p pos : Pos} (hk : F.env.kindOf "abs" = some .globalImplicit) (he : Ex F σ e (.int i)) (hse : ∀ env, starEach [e] env = [(false, eval e env)] := by intro _; rfl) : Ex F σ (.Call (.Name "abs" p) [e] [] pos) (.int i.natAbs) :=
  Ex.callB (T := "") (id := "abs") (by decide) (.inr rfl) (by rfl) hk (ExL.cons he ExL.nil hse) Cb.abs hse
theorem Ex.max2 {e e' : Expr} {i j : Int} {p pos : Pos} (hr : F.A.handled = none) (hk : F.env.kindOf "max" = some .globalImplicit) (he : Ex F σ e (.int i)) (he' : Ex F σ e' (.int j)) (hse : ∀ env, starEach [e, e'] env = [(false, eval e env), (false, eval e' env)] := by intro _; rfl) (hse' : ∀ env, starEach [e'] env = [(false, eval e' env)] := by intro _; rfl) :
    Ex F σ (.Call (.Name "max" p) [e, e'] [] pos) (.int (max i j)) :=
  Ex.callB (T := "") (id := "max") (by decide) (.inr rfl) (by rfl) hk (ExL.cons he (ExL.cons he' ExL.nil hse') (fun env => by rw [hse, hse'])) (Cb.max2 hr) (fun env => by rw [hse, hse']) (fun env => by rw [hse']; rfl)
theorem Ex.int {e : Expr} {i : Int} {p pos : Pos} (hk : F.env.kindOf "int" = some .globalImplicit) (he : Ex F σ e (.int i)) (hse : ∀ env, starEach [e] env = [(false, eval e env)] := by intro _; rfl) : Ex F σ (.Call (.Name "int" p) [e] [] pos) (.int i) :=
  Ex.callB (T := "int") (id := "") (by decide) (.inl rfl) (by rfl) hk (ExL.cons he ExL.nil hse) Cb.int hse
theorem Ex.tuple {e : Expr} {l : List Dt} {p pos : Pos} (hk : F.env.kindOf "tuple" = some .globalImplicit) (he : Ex F σ e (.list l)) (hsz : l.length ≤ sizeLine) (hse : ∀ env, starEach [e] env = [(false, eval e env)] := by intro _; rfl) : Ex F σ (.Call (.Name "tuple" p) [e] [] pos) (.tup l) :=
  Ex.callB (T := "tuple") (id := "") (by decide) (.inl rfl) (by rfl) hk (ExL.cons he ExL.nil hse) (Cb.tuple hsz) hse
theorem Ex.len {e : Expr} {l : List Dt} {p pos : Pos} (hk : F.env.kindOf "len" = some .globalImplicit) (he : Ex F σ e (.list l)) (hsz : l.length ≤ sizeLine) (hse : ∀ env, starEach [e] env = [(false, eval e env)] := by intro _; rfl) : Ex F σ (.Call (.Name "len" p) [e] [] pos) (.int l.length) :=
  Ex.callB (T := "") (id := "len") (by decide) (.inr rfl) (by rfl) hk (ExL.cons he ExL.nil hse) (Cb.len hsz) hse
theorem Ex.sumL {e : Expr} {l : List Int} {p pos : Pos} (hr : F.A.handled = none) (hk : F.env.kindOf "sum" = some .globalImplicit) (he : Ex F σ e (.list (l.map .int))) (hse : ∀ env, starEach [e] env = [(false, eval e env)] := by intro _; rfl) : Ex F σ (.Call (.Name "sum" p) [e] [] pos) (.int l.sum) :=
  Ex.callB (T := "") (id := "sum") (by decide) (.inr rfl) (by rfl) hk (ExL.cons he ExL.nil hse) (Cb.sumL hr) hse
theorem Ex.sumT {e : Expr} {l : List Int} {p pos : Pos} (hr : F.A.handled = none) (hk : F.env.kindOf "sum" = some .globalImplicit) (he : Ex F σ e (keyD l)) (hse : ∀ env, starEach [e] env = [(false, eval e env)] := by intro _; rfl) : Ex F σ (.Call (.Name "sum" p) [e] [] pos) (.int l.sum) :=
  Ex.callB (T := "") (id := "sum") (by decide) (.inr rfl) (by rfl) hk (ExL.cons he ExL.nil hse) (Cb.sumT hr) hse
theorem Ex.maxL {e : Expr} {l : List Int} {M : Int} {p pos : Pos} (hr : F.A.handled = none) (hk : F.env.kindOf "max" = some .globalImplicit) (he : Ex F σ e (.list (l.map .int))) (hM : M ∈ l) (hle : ∀ a ∈ l, a ≤ M) (hse : ∀ env, starEach [e] env = [(false, eval e env)] := by intro _; rfl) : Ex F σ (.Call (.Name "max" p) [e] [] pos) (.int M) :=
  Ex.callB (T := "") (id := "max") (by decide) (.inr rfl) (by rfl) hk (ExL.cons he ExL.nil hse) (Cb.maxL hr hM hle) hse
theorem Ex.cast {e : Expr} {d d' : Dt} (h : Ex F σ e d) (hd : d = d') : Ex F σ e d' := hd ▸ h
theorem Tx.cast {e : Expr} {d d' : Bool} (h : Tx F σ e d) (hd : d = d') : Tx F σ e d' := hd ▸ h
end
end Mine
end

section
open PySem PySem.W PyProof.Rows PySem.Calls
set_option autoImplicit false
set_option maxRecDepth 100000
namespace Mine

theorem Fn.gcd {prog : Program} {w : World} (a b : Int) : Fn prog w 1 5 [.int a, .int b] (.int (Int.gcd a b)) := by
  refine Fn.of_body (xs := ["a", "b"]) (ys := []) rfl (fun pm code doc vs h => ?_) (by decide) (by decide +kernel) (by decide +kernel) (by decide +kernel) (by decide +kernel) fun F X hp hw ctx => ?_
  · match vs, h with
    | [x, y], _ => rfl
  show Sx F ⟨X, [("a", some (.int a)), ("b", some (.int b))], []⟩ (_ :: _ :: _ :: []) _
  refine Sx.cons (Es.assign2 (ctx.lo (by decide +kernel)) (ctx.lo (by decide +kernel)) ctx.fn ctx.room.1 (Ex.tpl (ds := [.int a.natAbs, .int b.natAbs]) (ExL.cons (Ex.abs (ctx.gl (by decide +kernel)) (Ex.name m0)) (ExL.cons (Ex.abs (ctx.gl (by decide +kernel)) (Ex.name m1)) ExL.nil)) (by simp)) s1 s0 noΩ noΩ (by decide +kernel)) rfl ?_
  refine Sx.cons (Es.while (τ := Nat × Nat) (σf := fun p => ⟨X, [("a", some (.int p.1)), ("b", some (.int p.2))], []⟩) (σ' := ⟨X, [("a", some (.int (Int.gcd a b))), ("b", some (.int 0))], []⟩) X (fun _ => rfl) (fun p => Nat.gcd p.1 p.2 = Int.gcd a b) (fun p => p.2) (fun p hp => ?_) (a.natAbs, b.natAbs) (by rfl) rfl) rfl (Sx.ret (Ex.name m0))
  obtain ⟨x, y⟩ := p
  by_cases hy : y = 0
  · refine .inl ⟨(Tx.cmp (Ex.name m1).c (Ex.num (i := 0)).c Cp.ne (by rfl)).cast (by simp [hy]), ?_⟩
    subst hy
    simp only at hp
    rw [← hp, Nat.gcd_zero_right]; rfl
  · refine .inr ⟨(Tx.cmp (Ex.name m1).c (Ex.num (i := 0)).c Cp.ne (by rfl)).cast (by simp [hy]), (y, x % y), ?_, Nat.mod_lt _ (Nat.pos_of_ne_zero hy), ?_⟩
    · show Nat.gcd y (x % y) = _
      rw [← hp, Nat.gcd_comm y, ← Nat.gcd_rec y x, Nat.gcd_comm]
    · refine Sx.cons (Es.assign2 (ctx.lo (by decide +kernel)) (ctx.lo (by decide +kernel)) ctx.fn ctx.room.1 (Ex.tpl (ds := [.int y, .int ((x : Int).fmod y)]) (ExL.cons (Ex.name m1) (ExL.cons (Ex.mod (Ex.name m0) (Ex.name m1) (by simpa using hy)) ExL.nil)) (by simp)) s1 s0 noΩ noΩ (by decide +kernel)) rfl ?_
      have e : ((x : Int).fmod y) = ((x % y : Nat) : Int) := by rw [Int.fmod_eq_emod_of_nonneg _ (Int.natCast_nonneg y)]; rfl
      rw [e]
      exact Sx.nil
end Mine
end

section
open PySem PySem.W PyProof.Rows PySem.Calls
set_option autoImplicit false
set_option maxRecDepth 100000
namespace Mine

theorem Fn.mono {prog : Program} {w : World} {k j i : Nat} {ds : List Dt} {d : Dt} (h : Fn prog w k i ds d) (hk : k ≤ j) : Fn prog w j i ds d := fun base mg mb a A s X vs h1 h2 h3 h4 => h base mg mb a A s X vs h1 h2 h3 (h4.mono hk)

/-! ## ratios -/
noncomputable abbrev encR (q : Rat) : Dt := keyD [q.num, (q.den : Int)]
noncomputable def SmR (k : Nat) (q : Rat) : Prop := Sml k q.num ∧ Sml k (q.den : Int)

theorem rat_parts (t : Int) (b : Nat) (hb : b ≠ 0) : (mkRat t b).num = t / (Int.gcd t b : Int) ∧ ((mkRat t b).den : Int) = (b : Int) / (Int.gcd t b : Int) := by
  rw [← Rat.normalize_eq_mkRat hb, Rat.normalize_eq]
  refine ⟨rfl, ?_⟩
  show ((b / (t.natAbs.gcd b) : Nat) : Int) = _
  rw [Int.natCast_ediv]; rfl

theorem gcd_pos_of {t : Int} {b : Nat} (hb : b ≠ 0) : 0 < Int.gcd t b := Nat.gcd_pos_of_pos_right _ (Nat.pos_of_ne_zero hb)
theorem fdiv_nat (a : Int) (g : Nat) : a.fdiv g = a / (g : Int) := Int.fdiv_eq_ediv_of_nonneg _ (Int.natCast_nonneg g)

theorem Fn.rat {prog : Program} {w : World} (t : Int) (b : Nat) (hb : b ≠ 0) (hs : Sml 9000 (b : Int)) : Fn prog w 2 11 [.int t, .int b] (encR (mkRat t b)) := by
  refine Fn.of_body (xs := ["top", "bottom"]) (ys := ["g"]) rfl (fun pm code doc vs h => ?_) (by decide) (by decide +kernel) (by decide +kernel) (by decide +kernel) (by decide +kernel) fun F X hp hw ctx => ?_
  · match vs, h with
    | [x, y], _ => rfl
  show Sx F ⟨X, [("top", some (.int t)), ("bottom", some (.int b)), ("g", none)], []⟩ (_ :: _ :: _ :: []) _
  have hbi : (b : Int) ≠ 0 := by simpa using hb
  have hg := gcd_pos_of (t := t) hb
  have hgs : Sml 9000 (Int.gcd t b : Int) := by
    unfold Sml at *
    simp only [Int.natAbs_natCast] at *
    exact Nat.lt_of_le_of_lt (Nat.le_of_dvd (Nat.pos_of_ne_zero hb) (Nat.gcd_dvd_right _ _)) hs
  obtain ⟨e1, e2⟩ := rat_parts t b hb
  refine Sx.ifF ((Tx.cmp (Ex.name m1).c (Ex.num (i := 0)).c Cp.eq (by rfl)).cast (by simpa using hbi)) Sx.nil ?_
  refine Sx.cons (Es.assign (ctx.ow (by decide +kernel)) (Ex.ifTrue ((Tx.cmp (Ex.name m1).c (Ex.num (i := 0)).c Cp.gt (by rfl)).cast (by simp; omega))
    (Ex.call (Fn.gcd t b) ctx.room (ctx.gl (by decide +kernel)) (ExL.cons (Ex.name m0) (ExL.cons (Ex.name m1) ExL.nil)) (by decide) (by rfl))) s2 noΩ (by rfl)) rfl ?_
  refine Sx.ret ?_
  refine (Ex.tpl (ExL.cons (Ex.floordiv (Ex.name m0) (Ex.name m2) (by simpa using Nat.pos_iff_ne_zero.mp hg) hgs) (ExL.cons (Ex.floordiv (Ex.name m1) (Ex.name m2) (by simpa using Nat.pos_iff_ne_zero.mp hg) hgs) ExL.nil)) (by simp)).cast ?_
  rw [fdiv_nat, fdiv_nat, ← e1, ← e2]
  rfl

theorem SmR.num {k : Nat} {q : Rat} (h : SmR k q) : Sml k q.num := h.1
theorem SmR.den {k : Nat} {q : Rat} (h : SmR k q) : Sml k (q.den : Int) := h.2

theorem it0 {F : Fx} {σ : Ix} {b : Expr} {q : Rat} {pos p : Pos} {n : Nat} (hb : Ex F σ b (encR q)) : Ex F σ (.Subscript b (.Constant (.int 0) n p) pos) (.int q.num) :=
  Ex.itemT hb Ex.num (by decide) (by rfl) (by decide) (by intro _ _; rfl)
theorem it1 {F : Fx} {σ : Ix} {b : Expr} {q : Rat} {pos p : Pos} {n : Nat} (hb : Ex F σ b (encR q)) : Ex F σ (.Subscript b (.Constant (.int 1) n p) pos) (.int (q.den : Int)) :=
  Ex.itemT hb Ex.num (by decide) (by rfl) (by decide) (by intro _ _; rfl)

theorem Fn.radd {prog : Program} {w : World} (a b : Rat) (ha : SmR 4000 a) (hb : SmR 4000 b) : Fn prog w 3 12 [encR a, encR b] (encR (a + b)) := by
  refine Fn.of_body (xs := ["a", "b"]) (ys := []) rfl (fun pm code doc vs h => ?_) (by decide) (by decide +kernel) (by decide +kernel) (by decide +kernel) (by decide +kernel) fun F X hp hw ctx => ?_
  · match vs, h with
    | [x, y], _ => rfl
  show Sx F ⟨X, [("a", some (encR a)), ("b", some (encR b))], []⟩ (_ :: []) _
  have e : a + b = mkRat (a.num * b.den + b.num * a.den) (a.den * b.den) := by rw [Rat.add_def, Rat.normalize_eq_mkRat]
  have hd : a.den * b.den ≠ 0 := Nat.mul_ne_zero a.den_nz b.den_nz
  have hs : Sml 9000 ((a.den * b.den : Nat) : Int) := by rw [Int.natCast_mul]; exact (Sml.mul ha.2 hb.2).mono (by decide)
  have mo : ∀ {x y : Int}, Sml 4000 x → Sml 4000 y → IntMulOk x y := fun hx hy => Sml.mulOk (hx.mono (by decide)) (hy.mono (by decide))
  rw [e]
  refine Sx.ret (Ex.call (Fn.rat _ _ hd hs) ctx.room (ctx.gl (by decide +kernel)) (ExL.cons
    (Ex.add (Ex.mul (it0 (Ex.name m0)) (it1 (Ex.name m1)) (mo ha.1 hb.2)) (Ex.mul (it0 (Ex.name m1)) (it1 (Ex.name m0)) (mo hb.1 ha.2)))
    (ExL.cons ((Ex.mul (it1 (Ex.name m0)) (it1 (Ex.name m1)) (mo ha.2 hb.2)).cast (by rw [Int.natCast_mul])) ExL.nil)) (by decide) (by rfl))

theorem Fn.rmul {prog : Program} {w : World} (a b : Rat) (ha : SmR 4000 a) (hb : SmR 4000 b) : Fn prog w 3 13 [encR a, encR b] (encR (a * b)) := by
  refine Fn.of_body (xs := ["a", "b"]) (ys := []) rfl (fun pm code doc vs h => ?_) (by decide) (by decide +kernel) (by decide +kernel) (by decide +kernel) (by decide +kernel) fun F X hp hw ctx => ?_
  · match vs, h with
    | [x, y], _ => rfl
  show Sx F ⟨X, [("a", some (encR a)), ("b", some (encR b))], []⟩ (_ :: []) _
  have e : a * b = mkRat (a.num * b.num) (a.den * b.den) := by rw [Rat.mul_def, Rat.normalize_eq_mkRat]
  have hd : a.den * b.den ≠ 0 := Nat.mul_ne_zero a.den_nz b.den_nz
  have hs : Sml 9000 ((a.den * b.den : Nat) : Int) := by rw [Int.natCast_mul]; exact (Sml.mul ha.2 hb.2).mono (by decide)
  have mo : ∀ {x y : Int}, Sml 4000 x → Sml 4000 y → IntMulOk x y := fun hx hy => Sml.mulOk (hx.mono (by decide)) (hy.mono (by decide))
  rw [e]
  exact Sx.ret (Ex.call (Fn.rat _ _ hd hs) ctx.room (ctx.gl (by decide +kernel)) (ExL.cons
    (Ex.mul (it0 (Ex.name m0)) (it0 (Ex.name m1)) (mo ha.1 hb.1))
    (ExL.cons ((Ex.mul (it1 (Ex.name m0)) (it1 (Ex.name m1)) (mo ha.2 hb.2)).cast (by rw [Int.natCast_mul])) ExL.nil)) (by decide) (by rfl))

theorem Fn.rneg {prog : Program} {w : World} (a : Rat) : Fn prog w 1 14 [encR a] (encR (-a)) := by
  refine Fn.of_body (xs := ["a"]) (ys := []) rfl (fun pm code doc vs h => ?_) (by decide) (by decide +kernel) (by decide +kernel) (by decide +kernel) (by decide +kernel) fun F X hp hw ctx => ?_
  · match vs, h with
    | [x], _ => rfl
  show Sx F ⟨X, [("a", some (encR a))], []⟩ (_ :: []) _
  refine Sx.ret ((Ex.tpl (ExL.cons (Ex.sub Ex.num (it0 (Ex.name m0))) (ExL.cons (it1 (Ex.name m0)) ExL.nil)) (by simp)).cast ?_)
  rw [show (0 : Int) - a.num = (-a).num by rw [Rat.neg_num]; omega]
  rfl

noncomputable def powR (q : Rat) (n : Nat) : Rat := if n = 0 then 1 else q

theorem Fn.rpower {prog : Program} {w : World} (a : Rat) (n : Nat) (hn : n ≤ 1) (ha : SmR 4000 a) : Fn prog w 1 16 [encR a, .int n] (encR (powR a n)) := by
  refine Fn.of_body (xs := ["a", "n"]) (ys := ["greatest"]) rfl (fun pm code doc vs h => ?_) (by decide) (by decide +kernel) (by decide +kernel) (by decide +kernel) (by decide +kernel) fun F X hp hw ctx => ?_
  · match vs, h with
    | [x, y], _ => rfl
  show Sx F ⟨X, [("a", some (encR a)), ("n", some (.int n)), ("greatest", none)], []⟩ (_ :: _ :: _ :: _ :: []) _
  refine Sx.ifF ((Tx.cmp (Ex.name m1).c (Ex.num (i := 0)).c Cp.lt (by rfl)).cast (by simp)) Sx.nil ?_
  refine Sx.cons (Es.assign (ctx.ow (by decide +kernel)) (Ex.max2 ctx.room.1 (ctx.gl (by decide +kernel)) (Ex.abs (ctx.gl (by decide +kernel)) (it0 (Ex.name m0))) (it1 (Ex.name m0))) s2 noΩ (by rfl)) rfl ?_
  refine Sx.ifF (Tx.and_ff ((Tx.cmp (Ex.name m1).c (Ex.num (i := 1)).c Cp.gt (by rfl)).cast (by simp; omega))) Sx.nil ?_
  have h4 : ∀ {x : Int}, Sml 4000 x → (Builtin.Int.intBits x : Int) * n ≤ 2 ^ 27 := fun hx => by
    have := hx.bits
    have h1 : (Builtin.Int.intBits ‹Int› : Int) * n ≤ 4000 * 1 := by
      apply Int.mul_le_mul <;> omega
    omega
  refine Sx.ret ((Ex.tpl (ExL.cons (Ex.pow (it0 (Ex.name m0)) (Ex.name m1) (Int.natCast_nonneg n) (h4 ha.1)) (ExL.cons (Ex.pow (it1 (Ex.name m0)) (Ex.name m1) (Int.natCast_nonneg n) (h4 ha.2)) ExL.nil)) (by simp)).cast ?_)
  rw [Int.toNat_natCast]
  match n, hn with
  | 0, _ => simp only [Int.pow_zero]; rfl
  | 1, _ => simp only [Int.pow_one, Int.pow_succ, Int.pow_zero, Int.one_mul]; rfl
end Mine
end

section
open PySem PySem.W PyProof.Rows PySem.Calls
set_option autoImplicit false
set_option maxRecDepth 100000
namespace Mine

/-! ## what a comprehension takes over from around -/
noncomputable def HG (Γ₀ Γ : List (Str × Option Dt)) (names : List (Str × NameKind)) : Prop := ∀ y d, (y, some d) ∈ Γ₀ → (y, some d) ∈ Γ ∧ (y, NameKind.free) ∈ names ∧ names.lookup y = some .free
theorem HG.nil {Γ : List (Str × Option Dt)} {names : List (Str × NameKind)} : HG [] Γ names := fun _ _ h => by cases h
theorem HG.bare {Γ₀ Γ : List (Str × Option Dt)} {names : List (Str × NameKind)} {x : Str} (h : HG Γ₀ Γ names) : HG ((x, none) :: Γ₀) Γ names := fun y d hm => by
  rcases List.mem_cons.mp hm with e | hm
  · cases e
  · exact h y d hm
theorem HG.free {Γ₀ Γ : List (Str × Option Dt)} {names : List (Str × NameKind)} {x : Str} {d : Dt} (hm : (x, some d) ∈ Γ) (hk : (names.lookup x == some .free) = true) (h : HG Γ₀ Γ names) : HG ((x, some d) :: Γ₀) Γ names := fun y e hm' => by
  rcases List.mem_cons.mp hm' with q | hm'
  · cases q
    have hl : names.lookup x = some .free := by simpa using hk
    exact ⟨hm, mem_of_lookup hl, hl⟩
  · exact h y e hm'

section
variable {F : Fx} {σ : Ix}
/-- a list comprehension of no test -/
theorem Ex.lc {α : Type} {elt target iter : Expr} {scope : Scope} {pos : Pos} (xs : List α) (φ f : α → Dt) (Γ₀ : List (Str × Option Dt)) (ns : List Str) {items : List Dt} (hi : items = xs.map φ)
    (hsrc : Src F σ target iter items) (ok : CompOk F scope) (hns : Γ₀.map (·.1) = ns) (hnd : ns.Nodup) (hΓ : HG Γ₀ σ.Γ scope.names)
    (hel : ∀ x ∈ xs, ∀ C X, InComp (cF F scope C) scope.names → ∃ Γ₁, TgL (cF F scope C) [] target (φ x) Γ₀ Γ₁ ∧ Ex (cF F scope C) ⟨X, Γ₁, []⟩ elt (f x))
    (hlen : xs.length ≤ sizeLine) (hfs : ∀ x env, foldedSetIterable iter env x = pure x := by intro _ _; rfl) :
    Ex F σ (.ListComp elt [⟨target, iter, [], 0⟩] scope pos) (.list (xs.map f)) :=
  Ex.listComp xs φ f (fun _ => true) Γ₀ hi (by rw [List.filter_eq_self.mpr (fun _ _ => rfl)]) hsrc ok (hns ▸ hnd) hΓ (fun x hx C X ic => let ⟨Γ₁, h1, h2⟩ := hel x hx C X ic; ⟨Γ₁, h1, TsOk.nil, fun _ => h2⟩) hlen hfs
theorem Es.lc {α : Type} {x : Str} {px spos : Pos} {elt target iter : Expr} {scope : Scope} {pos : Pos} (xs : List α) (φ f : α → Dt) (Γ₀ : List (Str × Option Dt)) (ns : List Str) {items : List Dt} {Γ' : List (Str × Option Dt)} (hi : items = xs.map φ)
    (hx : (x == ("__debug__" : Str)) = false ∧ F.env.kindOf x = some .local) (hsrc : Src F σ target iter items) (ok : CompOk F scope) (hns : Γ₀.map (·.1) = ns) (hnd : ns.Nodup) (hΓ : HG Γ₀ σ.Γ scope.names)
    (hel : ∀ x ∈ xs, ∀ C X, InComp (cF F scope C) scope.names → ∃ Γ₁, TgL (cF F scope C) [] target (φ x) Γ₀ Γ₁ ∧ Ex (cF F scope C) ⟨X, Γ₁, []⟩ elt (f x))
    (hset : SetAt x (.list (xs.map f)) σ.Γ Γ') (hΩ : NoΩ σ x)
    (hsw : swapsWith (.ListComp elt [⟨target, iter, [], 0⟩] scope pos) (some (.Name x px)) spos.line F.env = pure true)
    (hlen : xs.length ≤ sizeLine) (hfs : ∀ x env, foldedSetIterable iter env x = pure x := by intro _ _; rfl) :
    Es F σ (.Assign [.Name x px] (.ListComp elt [⟨target, iter, [], 0⟩] scope pos) spos) ⟨σ.X, Γ', σ.Ω⟩ :=
  Es.listComp xs φ f (fun _ => true) Γ₀ hi (by rw [List.filter_eq_self.mpr (fun _ _ => rfl)]) hx hsrc ok (hns ▸ hnd) hΓ (fun x hx C X ic => let ⟨Γ₁, h1, h2⟩ := hel x hx C X ic; ⟨Γ₁, h1, TsOk.nil, fun _ => h2⟩) hset hΩ hsw hlen hfs
theorem TgL.n {Ω : List (Str × Addr × Dt)} {x : Str} {p : Pos} {d : Dt} {Γ Γ' : List (Str × Option Dt)} (h : (x == ("__debug__" : Str)) = false ∧ F.env.kindOf x = some .local) (hs : SetAt x d Γ Γ') (hΩ : ∀ q ∈ Ω, q.1 ≠ x := by intro _ h; cases h) : TgL F Ω (.Name x p) d Γ Γ' :=
  TgL.name h.1 h.2 hs hΩ
theorem TgL.p {Ω : List (Str × Addr × Dt)} {x y : Str} {p q tp : Pos} {k : Nat} {d₁ d₂ : Dt} {Γ Γ₁ Γ₂ : List (Str × Option Dt)} (hr : F.A.handled = none) (h : (x == ("__debug__" : Str)) = false ∧ F.env.kindOf x = some .local) (h' : (y == ("__debug__" : Str)) = false ∧ F.env.kindOf y = some .local)
    (hs : SetAt x d₁ Γ Γ₁) (hs' : SetAt y d₂ Γ₁ Γ₂) (hΩ : ∀ q ∈ Ω, q.1 ≠ x := by intro _ h; cases h) (hΩ' : ∀ q ∈ Ω, q.1 ≠ y := by intro _ h; cases h) : TgL F Ω (.Tuple [.Name x p, .Name y q] k tp) (.tup [d₁, d₂]) Γ Γ₂ :=
  TgL.pair hr h.1 h.2 h'.1 h'.2 hs hs' hΩ hΩ'
end

theorem enumD_ints (l : List Int) : enumD (l.map .int) = l.zipIdx.map fun p => .tup [.int p.2, .int p.1] := by
  unfold enumD
  rw [List.zipIdx_map, List.map_map]
  rfl

noncomputable def addK (a b : List Int) : List Int := List.zipWith (· + ·) a b

theorem addK_idx (a b : List Int) (h : a.length = b.length) : a.zipIdx.map (fun p => Dt.int (p.1 + b.getD p.2 0)) = (addK a b).map .int := by
  refine List.ext_getElem (by simp [addK, h]) fun i h1 h2 => ?_
  simp [addK]
  have : i < b.length := by simp [addK] at h2; omega
  simp [this]

theorem Fn.pp {prog : Program} {w : World} (a b : List Int) (h : a.length = b.length) (hl : a.length ≤ 100) : Fn prog w 1 1 [keyD a, keyD b] (keyD (addK a b)) := by
  refine Fn.of_body (xs := ["a", "b"]) (ys := []) rfl (fun pm code doc vs h => ?_) (by decide) (by decide +kernel) (by decide +kernel) (by decide +kernel) (by decide +kernel) fun F X hp hw ctx => ?_
  · match vs, h with
    | [x, y], _ => rfl
  have hsl : (100 : Nat) ≤ sizeLine := by decide
  show Sx F ⟨X, [("a", some (keyD a)), ("b", some (keyD b))], []⟩ (_ :: []) _
  refine Sx.ret ?_
  unfold keyD
  rw [← addK_idx a b h]
  refine Ex.tuple (ctx.gl (by decide +kernel)) (Ex.lc a.zipIdx _ (fun p => Dt.int (p.1 + b.getD p.2 0)) [("b", some (keyD b)), ("at", none), ("one", none)] ["b", "at", "one"] (enumD_ints a)
    (Src.enumT ctx.room.1 (ctx.gl (by decide +kernel)) (Ex.name m0)) (CompOk.of ctx.names (by decide +kernel)) rfl (by decide +kernel) (HG.free m1 (by decide +kernel) (HG.bare (HG.bare HG.nil))) (fun p hp C X ic => ?_) (by simp; omega)) (by simp; omega)
  refine ⟨[("b", some (keyD b)), ("at", some (.int p.2)), ("one", some (.int p.1))], TgL.p ctx.room.1 (ic.lo (by decide +kernel)) (ic.lo (by decide +kernel)) s1 s2, ?_⟩
  have hlt : p.2 < b.length := by
    obtain ⟨x, i⟩ := p
    have := List.mem_zipIdx hp
    simp only at *; omega
  refine Ex.add (Ex.name m2) (Ex.itemT (Ex.name m0) (Ex.name m1) (Int.natCast_nonneg _) (by simp [hlt]) (by omega) (by intro _ _; rfl))

noncomputable abbrev Poly := List (List Int × Rat)
noncomputable def encP (p : Poly) : List (List Int × Dt) := p.map fun e => (e.1, encR e.2)
theorem rat0 (q : Rat) : decide ([q.num, (q.den : Int)] = [0, 1]) = decide (q = 0) := by
  by_cases h : q = 0
  · subst h; rfl
  · have : q.num ≠ 0 := fun e => h (Rat.num_eq_zero.mp e)
    simp [h, this]

theorem Fn.mvterm {prog : Program} {w : World} (k : List Int) (q : Rat) : Fn prog w 1 18 [keyD k, encR q] (.dict (encP (if q = 0 then [] else [(k, q)]))) := by
  refine Fn.of_body (xs := ["powers", "rational"]) (ys := []) rfl (fun pm code doc vs h => ?_) (by decide) (by decide +kernel) (by decide +kernel) (by decide +kernel) (by decide +kernel) fun F X hp hw ctx => ?_
  · match vs, h with
    | [x, y], _ => rfl
  show Sx F ⟨X, [("powers", some (keyD k)), ("rational", some (encR q))], []⟩ (_ :: []) _
  have ht : ∀ {p1 p2 p3 : Pos}, Tx F ⟨X, [("powers", some (keyD k)), ("rational", some (encR q))], []⟩ (.Compare (.Name "rational" p1) [.Eq] [.Name "R0" p2] p3) (decide (q = 0)) := (Tx.cmp (Ex.name m1).c (Ex.cast (Ex.r0 (ctx.gl (by decide +kernel))) (show _ = keyD [0, 1] from rfl)).c (Cp.eqT ctx.room) (by rfl)).cast (rat0 q)
  by_cases hq : q = 0
  · rw [if_pos hq]
    exact Sx.ret (Ex.ifTrue (ht.cast (by simpa using hq)) (ExN.ex ExN.dict0))
  · rw [if_neg hq]
    exact Sx.ret (Ex.ifFalse (ht.cast (by simpa using hq)) (ExN.ex (ExN.dict1 ctx.room (fun c => Ex.name m0) (fun c => Ex.name m1))))

noncomputable def zeroK (n : Nat) : List Int := List.replicate n 0
theorem Fn.mvnumber {prog : Program} {w : World} (q : Rat) (n : Nat) (h : 2 ≤ n ∧ n ≤ 4) : Fn prog w 2 19 [encR q, .int n] (.dict (encP (if q = 0 then [] else [(zeroK n, q)]))) := by
  refine Fn.of_body (xs := ["rational", "n"]) (ys := []) rfl (fun pm code doc vs h => ?_) (by decide) (by decide +kernel) (by decide +kernel) (by decide +kernel) (by decide +kernel) fun F X hp hw ctx => ?_
  · match vs, h with
    | [x, y], _ => rfl
  show Sx F ⟨X, [("rational", some (encR q)), ("n", some (.int n))], []⟩ (_ :: []) _
  refine Sx.ret (Ex.call (Fn.mvterm (zeroK n) q) ctx.room (ctx.gl (by decide +kernel)) (ExL.cons ((Ex.mulT (Ex.tpl (ExL.cons Ex.num ExL.nil) (by simp)) (Ex.name m1) (by omega)).cast ?_) (ExL.cons (Ex.name m0) ExL.nil)) (by decide) (by rfl))
  rw [Int.toNat_natCast]
  unfold keyD zeroK
  rw [List.map_replicate]

end Mine
end

section
open PySem PySem.W PyProof.Rows PySem.Calls
set_option autoImplicit false
set_option maxRecDepth 100000
namespace Mine

/-! ## tables of keys -/
section
variable {β γ : Type}
noncomputable def aput (l : List (List Int × β)) (k : List Int) (d : β) : List (List Int × β) :=
  if (l.lookup k).isSome then l.map fun e => if e.1 = k then (e.1, d) else e else l ++ [(k, d)]
noncomputable def aerase (l : List (List Int × β)) (k : List Int) : List (List Int × β) := l.filter fun e => !decide (e.1 = k)
theorem lookup_map (φ : β → γ) (l : List (List Int × β)) (k : List Int) : (l.map fun e => (e.1, φ e.2)).lookup k = (l.lookup k).map φ := by
  induction l with
  | nil => rfl
  | cons e l ih =>
    rw [List.map_cons, List.lookup_cons, List.lookup_cons]
    split
    · rfl
    · exact ih
theorem aput_map (φ : β → Dt) (l : List (List Int × β)) (k : List Int) (d : β) : (aput l k d).map (fun e => (e.1, φ e.2)) = dput (l.map fun e => (e.1, φ e.2)) k (φ d) := by
  unfold aput dput
  rw [lookup_map, Option.isSome_map]
  split
  · rw [List.map_map, List.map_map]
    refine List.map_congr_left fun e _ => ?_
    simp only [Function.comp]
    split <;> rfl
  · simp
theorem aerase_map (φ : β → Dt) (l : List (List Int × β)) (k : List Int) : (aerase l k).map (fun e => (e.1, φ e.2)) = derase (l.map fun e => (e.1, φ e.2)) k := by
  unfold aerase derase
  rw [List.filter_map]; rfl
end

noncomputable def addTerm (f : Poly) (k : List Int) (q : Rat) : Poly :=
  let t := match f.lookup k with
    | some r => r + q
    | none => q
  if t = 0 then aerase f k else aput f k t

theorem encP_erase (f : Poly) (k : List Int) : encP (aerase f k) = derase (encP f) k := aerase_map encR f k
theorem encP_put (f : Poly) (k : List Int) (t : Rat) : encP (aput f k t) = dput (encP f) k (encR t) := aput_map encR f k t

theorem fin_quiet {F : Fx} (h : F.env.scope.kind = .function) : interactive F.env = false := by
  unfold interactive; rw [h]; rfl

theorem Fn.addT {prog : Program} {w : World} (f : Poly) (k : List Int) (q : Rat) (hq : SmR 4000 q) (hf : ∀ r, f.lookup k = some r → SmR 4000 r) (hl : f.length ≤ 1000) : FnW prog w 4 22 (.dict (encP f)) [keyD k, encR q] .none (.dict (encP (addTerm f k q))) := by
  refine FnW.of_body (x₀ := "found") (xs := ["powers", "rational"]) (ys := ["total"]) rfl .d (fun pm code doc vs h => ?_) (by decide) (by decide +kernel) (by decide +kernel) (by decide +kernel) (by decide +kernel) fun F X c hp hw ctx => ?_
  · match vs, h with
    | [x, y, z], _ => rfl
  have hsl : (1000 : Nat) ≤ sizeLine := by decide
  have r0 : Room 0 F.A := ctx.room.mono (by decide)
  have hl' : (encP f).length ≤ sizeLine := by simp [encP]; omega
  have lk : (encP f).lookup k = (f.lookup k).map encR := lookup_map encR f k
  show Sx F ⟨X, [("powers", some (keyD k)), ("rational", some (encR q)), ("total", none)], [("found", c, .dict (encP f))]⟩ (_ :: _ :: []) _
  have own : ∀ {σ : Ix} {p : Pos} {d : Dt}, σ.Ω = [(("found" : Str), c, d)] → ExC F σ (.Name "found" p) d := fun h => ExC.own (a := c) (by rw [h]; exact List.mem_singleton.mpr rfl)
  generalize ht : (match f.lookup k with | some r => r + q | none => q) = t
  have hres : addTerm f k q = if t = 0 then aerase f k else aput f k t := by unfold addTerm; rw [ht]
  rw [hres]
  refine Sx.cons (Es.assign (d := encR t) (ctx.ow (by decide +kernel)) ?_ s2 (noΩ1 (by decide +kernel)) (by rfl)) rfl ?_
  · cases hfk : f.lookup k with
    | some r =>
      rw [hfk] at ht
      subst ht
      refine Ex.ifTrue ((Tx.cmp (Ex.name m0).c (own rfl) (Cp.inD r0) (by rfl)).cast (by rw [lk, hfk]; rfl)) (Ex.call (Fn.radd r q (hf r hfk) hq) ctx.room (ctx.gl (by decide +kernel)) (ExL.cons (Ex.itemD (own rfl) (Ex.name m0) (by rw [lk, hfk]; rfl) r0 (by intro _ _; rfl)) (ExL.cons (Ex.name m1) ExL.nil)) (by decide) (by rfl))
    | none =>
      rw [hfk] at ht
      subst ht
      exact Ex.ifFalse ((Tx.cmp (Ex.name m0).c (own rfl) (Cp.inD r0) (by rfl)).cast (by rw [lk, hfk]; rfl)) (Ex.name m1)
  refine Sx.cons (σ' := ⟨X, [("powers", some (keyD k)), ("rational", some (encR q)), ("total", some (encR t))], [("found", c, .dict (encP (if t = 0 then aerase f k else aput f k t)))]⟩)
    (Es.ifExec (c := decide (t = 0)) ((Tx.cmp (Ex.name m2).c (Ex.cast (Ex.r0 (ctx.gl (by decide +kernel))) (show _ = keyD [0, 1] from rfl)).c (Cp.eqT r0) (by rfl)).cast (rat0 t)) (fun h => ?_) (fun h => ?_)) rfl (Sx.nilK fun s S => ?_)
  · rw [if_pos (by simpa using h), encP_erase]
    exact Sx.cons (Es.popD r0 (Ex.name m0) hl' (by rfl) (by rfl) (by rfl) (fin_quiet ctx.fn) (by rfl)) rfl Sx.nil
  · rw [if_neg (by simpa using h), encP_put]
    exact Sx.cons (Es.setD r0 (Ex.name m2) (Ex.name m0) hl' (by rfl)) rfl Sx.nil
  · obtain ⟨H, r, hX, _⟩ := S.own _ (List.mem_singleton.mpr rfl)
    exact ⟨rfl, S.sh, S.keep, r.sub fun a ha => .inl (S.xc a ha)⟩
end Mine
end

section
open PySem PySem.W PyProof.Rows PySem.Calls
set_option autoImplicit false
set_option maxRecDepth 100000
namespace Mine

/-- some entries forgotten -/
structure FG (Γ Γ' : List (Str × Option Dt)) : Prop where
  n : Γ'.map (·.1) = Γ.map (·.1)
  v : ∀ y d, (y, some d) ∈ Γ' → (y, some d) ∈ Γ
theorem FG.nil : FG [] [] := ⟨rfl, fun _ _ h => h⟩
theorem FG.keep {p : Str × Option Dt} {Γ Γ' : List (Str × Option Dt)} (h : FG Γ Γ') : FG (p :: Γ) (p :: Γ') :=
  ⟨by simp [h.n], fun y d hm => by
    rcases List.mem_cons.mp hm with e | hm
    · rw [e]; exact List.mem_cons_self
    · exact List.mem_cons_of_mem _ (h.v y d hm)⟩
theorem FG.drop {x : Str} {o : Option Dt} {Γ Γ' : List (Str × Option Dt)} (h : FG Γ Γ') : FG ((x, o) :: Γ) ((x, none) :: Γ') :=
  ⟨by simp [h.n], fun y d hm => by
    rcases List.mem_cons.mp hm with e | hm
    · cases e
    · exact List.mem_cons_of_mem _ (h.v y d hm)⟩
theorem FG.refl (Γ : List (Str × Option Dt)) : FG Γ Γ := ⟨rfl, fun _ _ h => h⟩
theorem St.forget {F : Fx} {X : Addr → Prop} {Γ Γ' : List (Str × Option Dt)} {Ω : List (Str × Addr × Dt)} {s : Shared} (S : St F ⟨X, Γ, Ω⟩ s) (h : FG Γ Γ') : St F ⟨X, Γ', Ω⟩ s :=
  { S with
    names := by rw [h.n]; exact S.names
    vals := fun x d hm => S.vals x d (h.v x d hm) }
theorem Sx.nilF {F : Fx} {X : Addr → Prop} {Γ Γ' : List (Str × Option Dt)} {Ω : List (Str × Addr × Dt)} {K : Flow → Shared → Prop} (h : FG Γ Γ') : Sx F ⟨X, Γ, Ω⟩ [] (Nx F ⟨X, Γ', Ω⟩ K) := fun _ S => wpAny_execs_nil ⟨S.forget h, (Keep.refl _).x⟩

theorem bN {x : Str} : Bare x [] := fun _ h => by cases h
theorem bO {x y : Str} {Γ : List (Str × Option Dt)} (h : Bare x Γ) : Bare x ((y, none) :: Γ) := fun d hm => by
  rcases List.mem_cons.mp hm with e | hm
  · cases e
  · exact h d hm
theorem bS {x y : Str} {d : Dt} {Γ : List (Str × Option Dt)} (hy : (y == x) = false) (h : Bare x Γ) : Bare x ((y, some d) :: Γ) := fun d hm => by
  rcases List.mem_cons.mp hm with e | hm
  · cases e; simp at hy
  · exact h d hm

theorem ExC.own1 {F : Fx} {X : Addr → Prop} {Γ : List (Str × Option Dt)} {x : Str} {c : Addr} {p : Pos} {d : Dt} : ExC F ⟨X, Γ, [(x, c, d)]⟩ (.Name x p) d := ExC.own (a := c) (List.mem_singleton.mpr rfl)

noncomputable def padd (a b : Poly) : Poly := b.foldl (fun f e => addTerm f e.1 e.2) a
theorem padd_snoc (a b : Poly) (e : List Int × Rat) : padd a (b ++ [e]) = addTerm (padd a b) e.1 e.2 := by simp [padd]

theorem keys_encP (b : Poly) : keysD (encP b) = b.map fun e => keyD e.1 := by simp [keysD, encP]
theorem lookup_mid {β : Type} {pre post : List (List Int × β)} {e : List Int × β} (h : ((pre ++ e :: post).map (·.1)).Nodup) : (pre ++ e :: post).lookup e.1 = some e.2 := by
  induction pre with
  | nil => rw [List.nil_append, List.lookup_cons, beq_self_eq_true]
  | cons x pre ih =>
    rw [List.cons_append, List.map_cons, List.nodup_cons] at h
    have hne : e.1 ≠ x.1 := fun q => h.1 (by rw [← q]; simp)
    rw [List.cons_append, List.lookup_cons, beq_false_of_ne hne]
    exact ih h.2

/-- what a sum of terms may be made of: small ratios, not too many -/
noncomputable def AddOk (a b : Poly) : Prop := ∀ pre e post, b = pre ++ e :: post → SmR 4000 e.2 ∧ (∀ r, (padd a pre).lookup e.1 = some r → SmR 4000 r) ∧ (padd a pre).length ≤ 1000

noncomputable abbrev HashOk (prog : Program) (w : World) (a : Poly) : Prop := (a.map fun e => tupleKeyHash (intKind prog w) e.1).Nodup

theorem Fn.mvadd {prog : Program} {w : World} (a b : Poly) (hb : (b.map (·.1)).Nodup) (ho : AddOk a b) (hl : a.length ≤ 1000) (hh : HashOk prog w a) : Fn prog w 5 21 [.dict (encP a), .dict (encP b)] (.dict (encP (padd a b))) := by
  refine Fn.of_body (xs := ["a", "b"]) (ys := ["powers"]) rfl (fun pm code doc vs h => ?_) (by decide) (by decide +kernel) (by decide +kernel) (by decide +kernel) (by decide +kernel) fun F X hp hw ctx => ?_
  · match vs, h with
    | [x, y], _ => rfl
  have hsl : (1000 : Nat) ≤ sizeLine := by decide
  have r0 : Room 0 F.A := ctx.room.mono (by decide)
  have la : (encP a).length ≤ sizeLine := by simp [encP]; omega
  show Sx F ⟨X, [("a", some (.dict (encP a))), ("b", some (.dict (encP b))), ("powers", none)], []⟩ (_ :: _ :: _ :: []) _
  refine Sx.own (ExN.dictOf (Ex.name m0) (ctx.gl (by decide +kernel)) la (by rw [hp, hw]; unfold encP; rw [List.map_map]; exact hh)) .d (ctx.ow (by decide +kernel)) (bS (by decide +kernel) (bS (by decide +kernel) (bO bN))) (by rfl) fun c hc => ?_
  have hc0 : F.s₀.heap.get? c = none := hc.elim id fun q => absurd q (ctx.pure c)
  refine Sx.cons (Es.for b (fun e => keyD e.1) _ (fun _ => [("a", some (.dict (encP a))), ("b", some (.dict (encP b))), ("powers", none)]) (fun pre => [("found", c, .dict (encP (padd a pre)))]) (keys_encP b)
    (Src.dict ctx.room.1 (Ex.name m1)) (fun pre e post hpre => ?_)) rfl (Sx.retOwn hc0 (.inl rfl))
  obtain ⟨o1, o2, o3⟩ := ho pre e post hpre
  refine ⟨[("a", some (.dict (encP a))), ("b", some (.dict (encP b))), ("powers", some (keyD e.1))], Tg.name (ctx.ow (by decide +kernel)) s2 (noΩ1 (X := X) (Γ := []) (by decide +kernel)), ?_⟩
  rw [padd_snoc]
  refine Sx.cons (Es.exprW (ExW.call (Fn.addT (padd a pre) e.1 e.2 o1 o2 o3) ctx.room (ctx.gl (by decide +kernel)) .d (ExL.cons (Ex.name m2) (ExL.cons (Ex.itemD (Ex.name m1).c (Ex.name m2) ?_ r0 (by intro _ _; rfl)) ExL.nil)) (by decide) (by rfl)) .d .d (fin_quiet ctx.fn) (by rfl)) rfl (Sx.nilF (FG.keep (FG.keep (FG.drop FG.nil))))
  show (encP b).lookup e.1 = some (encR e.2)
  unfold encP
  rw [lookup_map, hpre, lookup_mid (hpre ▸ hb)]
  rfl
end Mine
end

section
open PySem PySem.W PyProof.Rows PySem.Calls
set_option autoImplicit false
set_option maxRecDepth 100000
namespace Mine

theorem lookup_none {β : Type} {l : List (List Int × β)} {k : List Int} (h : k ∉ l.map (·.1)) : l.lookup k = none := by
  induction l with
  | nil => rfl
  | cons e l ih =>
    rw [List.map_cons, List.mem_cons, not_or] at h
    rw [List.lookup_cons, beq_false_of_ne h.1]
    exact ih h.2
theorem dbuild_nodup {l : List (List Int × Dt)} (h : (l.map (·.1)).Nodup) : dbuild l = l := by
  have : ∀ (l a : List (List Int × Dt)), ((a ++ l).map (·.1)).Nodup → l.foldl (fun l e => dput l e.1 e.2) a = a ++ l := by
    intro l
    induction l with
    | nil => intro a _; simp
    | cons e l ih =>
      intro a h
      rw [List.foldl_cons]
      have hn : a.lookup e.1 = none := lookup_none fun hm => by
        rw [List.map_append, List.nodup_append] at h
        exact absurd rfl (h.2.2 e.1 hm e.1 (by simp))
      have e1 : dput a e.1 e.2 = a ++ [e] := by unfold dput; rw [hn]; rfl
      rw [e1, ih _ (by simpa using h)]
      simp
  simpa [dbuild] using this l [] (by simpa using h)

noncomputable def pneg (a : Poly) : Poly := a.map fun e => (e.1, -e.2)
noncomputable def pscale (a : Poly) (q : Rat) : Poly := a.map fun e => (e.1, e.2 * q)
theorem mem_lookup {β : Type} {l : List (List Int × β)} (h : (l.map (·.1)).Nodup) {e : List Int × β} (he : e ∈ l) : l.lookup e.1 = some e.2 := by
  obtain ⟨pre, post, rfl⟩ := List.append_of_mem he
  exact lookup_mid h
theorem encP_lookup (a : Poly) (k : List Int) : (encP a).lookup k = (a.lookup k).map encR := lookup_map encR a k

theorem Fn.mvneg {prog : Program} {w : World} (a : Poly) (ha : (a.map (·.1)).Nodup) (hl : a.length ≤ 1000) : Fn prog w 2 23 [.dict (encP a)] (.dict (encP (pneg a))) := by
  refine Fn.of_body (xs := ["a"]) (ys := []) rfl (fun pm code doc vs h => ?_) (by decide) (by decide +kernel) (by decide +kernel) (by decide +kernel) (by decide +kernel) fun F X hp hw ctx => ?_
  · match vs, h with
    | [x], _ => rfl
  have hsl : (1000 : Nat) ≤ sizeLine := by decide
  have r0 : Room 0 F.A := ctx.room.mono (by decide)
  show Sx F ⟨X, [("a", some (.dict (encP a)))], []⟩ (_ :: []) _
  have e : encP (pneg a) = dbuild ((a.filter fun _ => true).map fun e => (e.1, encR (-e.2))) := by
    rw [List.filter_eq_self.mpr (fun _ _ => rfl), dbuild_nodup (by rw [List.map_map]; exact ha)]
    simp [encP, pneg]
  refine Sx.ret (Ex.dictComp a (fun e => keyD e.1) (fun e => e.1) (fun e => encR (-e.2)) (fun _ => true) [("a", some (.dict (encP a))), ("powers", none)] (keys_encP a) (by rw [e]) r0
    (Src.dict ctx.room.1 (Ex.name m0)) (CompOk.of ctx.names (by decide +kernel)) (by show List.Nodup [("a" : Str), "powers"]; decide +kernel) (HG.free m0 (by decide +kernel) (HG.bare HG.nil)) (fun x hx C Y ic => ?_) (by omega))
  refine ⟨[("a", some (.dict (encP a))), ("powers", some (keyD x.1))], TgL.n (ic.lo (by decide +kernel)) s1, TsOk.nil, fun _ => ⟨Ex.name m1, ?_⟩⟩
  exact Ex.call (Fn.rneg x.2) ctx.room (ic.gl (by decide +kernel)) (ExL.cons (Ex.itemD (Ex.name m0).c (Ex.name m1) (by rw [encP_lookup, mem_lookup ha hx]; rfl) r0 (by intro _ _; rfl)) ExL.nil) (by decide) (by rfl)

theorem pneg_keys (a : Poly) : (pneg a).map (·.1) = a.map (·.1) := by simp [pneg]
theorem Fn.mvsub {prog : Program} {w : World} (a b : Poly) (hb : (b.map (·.1)).Nodup) (ho : AddOk a (pneg b)) (hl : a.length ≤ 1000) (hlb : b.length ≤ 1000) (hh : HashOk prog w a) : Fn prog w 6 24 [.dict (encP a), .dict (encP b)] (.dict (encP (padd a (pneg b)))) := by
  refine Fn.of_body (xs := ["a", "b"]) (ys := []) rfl (fun pm code doc vs h => ?_) (by decide) (by decide +kernel) (by decide +kernel) (by decide +kernel) (by decide +kernel) fun F X hp hw ctx => ?_
  · match vs, h with
    | [x, y], _ => rfl
  show Sx F ⟨X, [("a", some (.dict (encP a))), ("b", some (.dict (encP b)))], []⟩ (_ :: []) _
  exact Sx.ret (Ex.call (Fn.mvadd a (pneg b) (by rw [pneg_keys]; exact hb) ho hl (by rw [hp, hw]; exact hh)) ctx.room (ctx.gl (by decide +kernel)) (ExL.cons (Ex.name m0) (ExL.cons
    (Ex.call (Fn.mvneg b hb hlb) (ctx.room.mono (by decide)) (ctx.gl (by decide +kernel)) (ExL.cons (Ex.name m1) ExL.nil) (by decide) (by rfl)) ExL.nil)) (by decide) (by rfl))

theorem Fn.mvscale {prog : Program} {w : World} (a : Poly) (q : Rat) (hq : q ≠ 0) (ha : (a.map (·.1)).Nodup) (hs : ∀ e ∈ a, SmR 4000 e.2) (hsq : SmR 4000 q) (hl : a.length ≤ 1000) : Fn prog w 4 25 [.dict (encP a), encR q] (.dict (encP (pscale a q))) := by
  refine Fn.of_body (xs := ["a", "rational"]) (ys := []) rfl (fun pm code doc vs h => ?_) (by decide) (by decide +kernel) (by decide +kernel) (by decide +kernel) (by decide +kernel) fun F X hp hw ctx => ?_
  · match vs, h with
    | [x, y], _ => rfl
  have hsl : (1000 : Nat) ≤ sizeLine := by decide
  have r0 : Room 0 F.A := ctx.room.mono (by decide)
  show Sx F ⟨X, [("a", some (.dict (encP a))), ("rational", some (encR q))], []⟩ (_ :: _ :: []) _
  have e : encP (pscale a q) = dbuild ((a.filter fun _ => true).map fun e => (e.1, encR (e.2 * q))) := by
    rw [List.filter_eq_self.mpr (fun _ _ => rfl), dbuild_nodup (by rw [List.map_map]; exact ha)]
    simp [encP, pscale]
  refine Sx.ifF ((Tx.cmp (Ex.name m1).c (Ex.cast (Ex.r0 (ctx.gl (by decide +kernel))) (show _ = keyD [0, 1] from rfl)).c (Cp.eqT r0) (by rfl)).cast ((rat0 q).trans (by simpa using hq))) Sx.nil ?_
  refine Sx.ret (Ex.dictComp a (fun e => keyD e.1) (fun e => e.1) (fun e => encR (e.2 * q)) (fun _ => true) [("a", some (.dict (encP a))), ("rational", some (encR q)), ("powers", none)] (keys_encP a) (by rw [e]) r0
    (Src.dict ctx.room.1 (Ex.name m0)) (CompOk.of ctx.names (by decide +kernel)) (by show List.Nodup [("a" : Str), "rational", "powers"]; decide +kernel) (HG.free m0 (by decide +kernel) (HG.free m1 (by decide +kernel) (HG.bare HG.nil))) (fun x hx C Y ic => ?_) (by omega))
  refine ⟨[("a", some (.dict (encP a))), ("rational", some (encR q)), ("powers", some (keyD x.1))], TgL.n (ic.lo (by decide +kernel)) s2, TsOk.nil, fun _ => ⟨Ex.name m2, ?_⟩⟩
  exact Ex.call (Fn.rmul x.2 q (hs x hx) hsq) ctx.room (ic.gl (by decide +kernel)) (ExL.cons (Ex.itemD (Ex.name m0).c (Ex.name m2) (by rw [encP_lookup, mem_lookup ha hx]; rfl) r0 (by intro _ _; rfl)) (ExL.cons (Ex.name m1) ExL.nil)) (by decide) (by rfl)

/-! ## products -/
noncomputable def trm (ea eb : List Int × Rat) : List Int × Rat := (addK ea.1 eb.1, ea.2 * eb.2)
noncomputable def trms (a b : Poly) : Poly := b.flatMap fun eb => a.map fun ea => trm ea eb
noncomputable def pmul (a b : Poly) : Poly := padd [] (trms a b)
theorem padd_append (a b c : Poly) : padd a (b ++ c) = padd (padd a b) c := by simp [padd]
theorem trms_snoc (a b : Poly) (e : List Int × Rat) : trms a (b ++ [e]) = trms a b ++ a.map fun ea => trm ea e := by simp [trms]

theorem Fn.mvmul {prog : Program} {w : World} (a b : Poly) (n : Nat) (hn : n ≤ 100) (ha : (a.map (·.1)).Nodup) (hb : (b.map (·.1)).Nodup) (hka : ∀ e ∈ a, e.1.length = n) (hkb : ∀ e ∈ b, e.1.length = n)
    (hsa : ∀ e ∈ a, SmR 4000 e.2) (hsb : ∀ e ∈ b, SmR 4000 e.2) (ho : AddOk [] (trms a b)) : Fn prog w 5 26 [.dict (encP a), .dict (encP b)] (.dict (encP (pmul a b))) := by
  refine Fn.of_body (xs := ["a", "b"]) (ys := ["powers", "one"]) rfl (fun pm code doc vs h => ?_) (by decide) (by decide +kernel) (by decide +kernel) (by decide +kernel) (by decide +kernel) fun F X hp hw ctx => ?_
  · match vs, h with
    | [x, y], _ => rfl
  have r0 : Room 0 F.A := ctx.room.mono (by decide)
  show Sx F ⟨X, [("a", some (.dict (encP a))), ("b", some (.dict (encP b))), ("powers", none), ("one", none)], []⟩ (_ :: _ :: _ :: []) _
  refine Sx.own ExN.dict0 .d (ctx.ow (by decide +kernel)) (bS (by decide +kernel) (bS (by decide +kernel) (bO (bO bN)))) (by rfl) fun c hc => ?_
  have hc0 : F.s₀.heap.get? c = none := hc.elim id fun q => absurd q (ctx.pure c)
  refine Sx.cons (Es.for b (fun e => keyD e.1) _ (fun _ => [("a", some (.dict (encP a))), ("b", some (.dict (encP b))), ("powers", none), ("one", none)]) (fun pre => [("found", c, .dict (encP (padd [] (trms a pre))))]) (keys_encP b)
    (Src.dict ctx.room.1 (Ex.name m1)) (fun preb eb postb hpreb => ?_)) rfl (Sx.retOwn hc0 (.inl rfl))
  refine ⟨[("a", some (.dict (encP a))), ("b", some (.dict (encP b))), ("powers", some (keyD eb.1)), ("one", none)], Tg.name (ctx.ow (by decide +kernel)) s2 (noΩ1 (X := X) (Γ := []) (by decide +kernel)), ?_⟩
  have hebm : eb ∈ b := by rw [hpreb]; simp
  rw [trms_snoc, padd_append]
  refine Sx.cons (Es.for a (fun e => keyD e.1) _ (fun _ => [("a", some (.dict (encP a))), ("b", some (.dict (encP b))), ("powers", some (keyD eb.1)), ("one", none)]) (fun pre => [("found", c, .dict (encP (padd (padd [] (trms a preb)) (pre.map fun ea => trm ea eb))))]) (keys_encP a)
    (Src.dict ctx.room.1 (Ex.name m0)) (fun prea ea posta hprea => ?_)) rfl (Sx.nilF (FG.keep (FG.keep (FG.drop (FG.keep FG.nil)))))
  have heam : ea ∈ a := by rw [hprea]; simp
  refine ⟨[("a", some (.dict (encP a))), ("b", some (.dict (encP b))), ("powers", some (keyD eb.1)), ("one", some (keyD ea.1))], Tg.name (ctx.ow (by decide +kernel)) s3 (noΩ1 (X := X) (Γ := []) (by decide +kernel)), ?_⟩
  have hsplit : trms a b = (trms a preb ++ prea.map fun ea => trm ea eb) ++ trm ea eb :: ((posta.map fun ea => trm ea eb) ++ trms a postb) := by
    conv => lhs; rw [hpreb]
    unfold trms
    rw [List.flatMap_append, List.flatMap_cons]
    conv => lhs; arg 2; arg 1; rw [hprea]
    simp
  obtain ⟨o1, o2, o3⟩ := ho _ _ _ hsplit
  rw [padd_append] at o2 o3
  have ek : addK ea.1 eb.1 = (trm ea eb).1 := rfl
  have eq : ea.2 * eb.2 = (trm ea eb).2 := rfl
  rw [List.map_append, List.map_cons, List.map_nil, padd_snoc, ← ek, ← eq]
  refine Sx.cons (Es.exprW (ExW.call (Fn.addT _ _ _ o1 o2 o3) ctx.room (ctx.gl (by decide +kernel)) .d
    (ExL.cons (Ex.call (Fn.pp ea.1 eb.1 (by rw [hka _ heam, hkb _ hebm]) (by rw [hka _ heam]; exact hn)) (ctx.room.mono (by decide)) (ctx.gl (by decide +kernel)) (ExL.cons (Ex.name m3) (ExL.cons (Ex.name m2) ExL.nil)) (by decide) (by rfl))
    (ExL.cons (Ex.call (Fn.rmul ea.2 eb.2 (hsa _ heam) (hsb _ hebm)) (ctx.room.mono (by decide)) (ctx.gl (by decide +kernel))
      (ExL.cons (Ex.itemD (Ex.name m0).c (Ex.name m3) (by rw [encP_lookup, mem_lookup ha heam]; rfl) r0 (by intro _ _; rfl)) (ExL.cons (Ex.itemD (Ex.name m1).c (Ex.name m2) (by rw [encP_lookup, mem_lookup hb hebm]; rfl) r0 (by intro _ _; rfl)) ExL.nil)) (by decide) (by rfl)) ExL.nil)) (by decide) (by rfl)) .d .d (fin_quiet ctx.fn) (by rfl)) rfl
    (Sx.nilF (FG.keep (FG.keep (FG.keep (FG.drop FG.nil)))))
end Mine
end

section
open PySem PySem.W PyProof.Rows PySem.Calls
set_option autoImplicit false
set_option maxRecDepth 100000
namespace Mine

/-! ## a polynomial at numbers -/
noncomputable def pmono (vals : List Rat) (q : Rat) (ps : List (Int × Nat)) : Rat := ps.foldl (fun p x => p * powR (vals.getD x.2 0) x.1.toNat) q
noncomputable def pat (a : Poly) (vals : List Rat) : Rat := a.foldl (fun acc e => acc + pmono vals e.2 e.1.zipIdx) 0
theorem pmono_snoc (vals : List Rat) (q : Rat) (ps : List (Int × Nat)) (x : Int × Nat) : pmono vals q (ps ++ [x]) = pmono vals q ps * powR (vals.getD x.2 0) x.1.toNat := by simp [pmono]
theorem pat_snoc (a : Poly) (vals : List Rat) (e : List Int × Rat) : pat (a ++ [e]) vals = pat a vals + pmono vals e.2 e.1.zipIdx := by simp [pat]

structure AtOk (a : Poly) (vals : List Rat) : Prop where
  keys : ∀ e ∈ a, ∀ x ∈ e.1, x = 0 ∨ x = 1
  len : ∀ e ∈ a, e.1.length = vals.length
  sml : ∀ v ∈ vals, SmR 4000 v
  mono : ∀ e ∈ a, ∀ pre post, e.1.zipIdx = pre ++ post → SmR 4000 (pmono vals e.2 pre)
  sum : ∀ pre post, a = pre ++ post → SmR 4000 (pat pre vals)

theorem smR_pow {v : Rat} (h : SmR 4000 v) (m : Nat) : SmR 4000 (powR v m) := by
  unfold powR
  split
  · exact ⟨(show Sml 1 (1 : Int) by unfold Sml; decide).mono (by decide), (show Sml 1 (1 : Int) by unfold Sml; decide).mono (by decide)⟩
  · exact h

theorem Fn.mvat {prog : Program} {w : World} (a : Poly) (vals : List Rat) (ha : (a.map (·.1)).Nodup) (ho : AtOk a vals) (hv : vals.length ≤ 100) : Fn prog w 4 27 [.dict (encP a), .list (vals.map encR)] (encR (pat a vals)) := by
  refine Fn.of_body (xs := ["a", "values"]) (ys := ["found", "powers", "product", "at", "many"]) rfl (fun pm code doc vs h => ?_) (by decide) (by decide +kernel) (by decide +kernel) (by decide +kernel) (by decide +kernel) fun F X hp hw ctx => ?_
  · match vs, h with
    | [x, y], _ => rfl
  have r0 : Room 0 F.A := ctx.room.mono (by decide)
  show Sx F ⟨X, [("a", some (.dict (encP a))), ("values", some (.list (vals.map encR))), ("found", none), ("powers", none), ("product", none), ("at", none), ("many", none)], []⟩ (_ :: _ :: _ :: []) _
  refine Sx.cons (Es.assign (d := encR 0) (ctx.ow (by decide +kernel)) (Ex.cast (Ex.r0 (ctx.gl (by decide +kernel))) rfl) s2 noΩ (by rfl)) rfl ?_
  refine Sx.cons (Es.for a (fun e => keyD e.1) X (fun pre => [("a", some (.dict (encP a))), ("values", some (.list (vals.map encR))), ("found", some (encR (pat pre vals))), ("powers", none), ("product", none), ("at", none), ("many", none)]) (fun _ => []) (keys_encP a)
    (Src.dict ctx.room.1 (Ex.name m0)) (fun pre e post hpre => ?_)) rfl (Sx.ret (Ex.name m2))
  have hem : e ∈ a := by rw [hpre]; simp
  refine ⟨[("a", some (.dict (encP a))), ("values", some (.list (vals.map encR))), ("found", some (encR (pat pre vals))), ("powers", some (keyD e.1)), ("product", none), ("at", none), ("many", none)], Tg.name (ctx.ow (by decide +kernel)) s3 (noΩ (X := X) (Γ := [])), ?_⟩
  refine Sx.cons (Es.assign (d := encR e.2) (ctx.ow (by decide +kernel)) (Ex.itemD (Ex.name m0).c (Ex.name m3) (by rw [encP_lookup, mem_lookup ha hem]; rfl) r0 (by intro _ _; rfl)) s4 noΩ (by rfl)) rfl ?_
  refine Sx.cons (Es.for e.1.zipIdx (fun p => .tup [.int p.2, .int p.1]) X (fun ps => [("a", some (.dict (encP a))), ("values", some (.list (vals.map encR))), ("found", some (encR (pat pre vals))), ("powers", some (keyD e.1)), ("product", some (encR (pmono vals e.2 ps))), ("at", none), ("many", none)]) (fun _ => [])
    (enumD_ints e.1) (Src.enumT ctx.room.1 (ctx.gl (by decide +kernel)) (Ex.name m3)) (fun ps x qs hps => ?_)) rfl ?_
  · refine ⟨[("a", some (.dict (encP a))), ("values", some (.list (vals.map encR))), ("found", some (encR (pat pre vals))), ("powers", some (keyD e.1)), ("product", some (encR (pmono vals e.2 ps))), ("at", some (.int x.2)), ("many", some (.int x.1))],
      Tg.pair ctx.room.1 (ctx.ow (by decide +kernel)) (ctx.ow (by decide +kernel)) s5 s6 (noΩ (X := X) (Γ := [])) (noΩ (X := X) (Γ := [])), ?_⟩
    have hxm : x ∈ e.1.zipIdx := by rw [hps]; simp
    obtain ⟨m, i⟩ := x
    have hmi := List.mem_zipIdx hxm
    simp only [Nat.zero_add, Nat.sub_zero] at hmi
    have hi : i < vals.length := by rw [← ho.len e hem]; exact hmi.2.1
    have hm01 : m = 0 ∨ m = 1 := ho.keys e hem m (by rw [hmi.2.2]; exact List.getElem_mem _)
    have hv4 : SmR 4000 (vals.getD i 0) := by
      rw [List.getD_eq_getElem?_getD, List.getElem?_eq_getElem hi]
      exact ho.sml _ (List.getElem_mem _)
    have hmn : (m : Int) = (m.toNat : Int) := by rcases hm01 with rfl | rfl <;> rfl
    have hm1 : m.toNat ≤ 1 := by rcases hm01 with rfl | rfl <;> decide
    rw [pmono_snoc]
    refine Sx.cons (Es.assign (ctx.ow (by decide +kernel)) (Ex.call (Fn.rmul (pmono vals e.2 ps) (powR (vals.getD i 0) m.toNat) (ho.mono e hem ps _ hps) (smR_pow hv4 _)) ctx.room (ctx.gl (by decide +kernel))
      (ExL.cons (Ex.name m4) (ExL.cons (Ex.call (Fn.rpower (vals.getD i 0) m.toNat hm1 hv4) (ctx.room.mono (by decide)) (ctx.gl (by decide +kernel))
        (ExL.cons (Ex.itemL (Ex.name m1).c (Ex.name m5) (Int.natCast_nonneg _) (by simp [hi]) (by omega) (by intro _ _; rfl)) (ExL.cons ((Ex.name m6).cast (by rw [← hmn])) ExL.nil)) (by decide) (by rfl)) ExL.nil)) (by decide) (by rfl)) s4 noΩ (by rfl)) rfl
      (Sx.nilF (FG.keep (FG.keep (FG.keep (FG.keep (FG.keep (FG.drop (FG.drop FG.nil))))))))
  · rw [pat_snoc]
    refine Sx.cons (Es.assign (ctx.ow (by decide +kernel)) (Ex.call (Fn.radd (pat pre vals) (pmono vals e.2 e.1.zipIdx) (ho.sum pre _ hpre) (ho.mono e hem _ [] (by simp))) ctx.room (ctx.gl (by decide +kernel)) (ExL.cons (Ex.name m2) (ExL.cons (Ex.name m4) ExL.nil)) (by decide) (by rfl)) s2 noΩ (by rfl)) rfl
      (Sx.nilF (FG.keep (FG.keep (FG.keep (FG.drop (FG.drop (FG.drop (FG.drop FG.nil))))))))

noncomputable def unitK (at_ n : Nat) : List Int := (List.range n).map fun s => if s = at_ then 1 else 0
theorem Fn.mvletter {prog : Program} {w : World} (a n : Nat) (hn : n ≤ 100) : Fn prog w 1 20 [.int a, .int n] (.dict (encP [(unitK a n, 1)])) := by
  refine Fn.of_body (xs := ["at", "n"]) (ys := []) rfl (fun pm code doc vs h => ?_) (by decide) (by decide +kernel) (by decide +kernel) (by decide +kernel) (by decide +kernel) fun F X hp hw ctx => ?_
  · match vs, h with
    | [x, y], _ => rfl
  have hsl : (100 : Nat) ≤ sizeLine := by decide
  show Sx F ⟨X, [("at", some (.int a)), ("n", some (.int n))], []⟩ (_ :: []) _
  refine Sx.ret (ExN.ex (ExN.dict1 ctx.room (fun c => ?_) (fun c => Ex.cast (Ex.r1 (ctx.gl (by decide +kernel))) rfl)))
  have e : keyD (unitK a n) = .tup ((List.range n).map fun s => Dt.int (if s = a then 1 else 0)) := by
    unfold keyD unitK; rw [List.map_map]; rfl
  rw [e]
  refine Ex.tuple (ctx.gl (by decide +kernel)) (Ex.lc (List.range n) (fun s => .int (s : Int)) (fun s => Dt.int (if s = a then 1 else 0)) [("at", some (.int a)), ("spot", none)] ["at", "spot"] rfl
    (Src.range ctx.room.1 (ctx.gl (by decide +kernel)) (Ex.name m1) (by omega)) (CompOk.of ctx.names (by decide +kernel)) rfl (by decide +kernel) (HG.free m0 (by decide +kernel) (HG.bare HG.nil)) (fun s hs C Y ic => ?_) (by simp; omega)) (by simp; omega)
  refine ⟨[("at", some (.int a)), ("spot", some (.int s))], TgL.n (ic.lo (by decide +kernel)) s1, ?_⟩
  refine (Ex.ifExp (c := decide (s = a)) ((Tx.cmp (Ex.name (d := .int s) m1).c (Ex.name (d := .int a) m0).c Cp.eq (by rfl)).cast ?_) (fun _ => Ex.num) (fun _ => Ex.num)).cast ?_
  · by_cases h : s = a
    · subst h; simp
    · have : (s : Int) ≠ a := by omega
      simp [h, this]
  · by_cases h : s = a <;> simp [h]
end Mine
end

section
open PySem PySem.W PyProof.Rows PySem.Calls
set_option autoImplicit false
set_option maxRecDepth 100000
namespace Mine

theorem swapped_sub {env : Env} {o o' i i' : Expr} {p p' t q : Pos} {n n' : Nat} {vs : List Expr} : swappedStores [.Tuple [.Subscript o i p, .Subscript o' i' p'] n t] (.Tuple vs n' q) env = pure none := by
  unfold swappedStores
  simp

noncomputable def bitsK (m n : Nat) : List Int := (List.range n).map fun i => ((m / 2 ^ i % 2 : Nat) : Int)

section
variable {F : Fx} {σ : Ix}
theorem sml_pow {i : Nat} (h : i ≤ 100) : Sml 9000 ((2 ^ i : Nat) : Int) := by
  unfold Sml
  rw [Int.natAbs_natCast]
  exact Nat.pow_lt_pow_right (by decide) (by omega)
theorem Ex.two {e : Expr} {i : Nat} {p pos : Pos} {k : Nat} (he : Ex F σ e (.int i)) (hi : i ≤ 100) : Ex F σ (.BinOp (.Constant (.int 2) k p) .Pow e pos) (.int ((2 ^ i : Nat) : Int)) := by
  refine (Ex.pow Ex.num he (Int.natCast_nonneg i) ?_).cast ?_
  · have e : Builtin.Int.intBits 2 = 2 := by decide +kernel
    rw [e]; omega
  · rw [Int.toNat_natCast]; simp
/-- spot // 2 ** at % 2 -/
theorem Ex.bit {a b : Expr} {m i : Nat} {p q r s t : Pos} {k k' : Nat} (ha : Ex F σ a (.int m)) (hb : Ex F σ b (.int i)) (hi : i ≤ 100) :
    Ex F σ (.BinOp (.BinOp a .FloorDiv (.BinOp (.Constant (.int 2) k p) .Pow b q) r) .Mod (.Constant (.int 2) k' s) t) (.int ((m / 2 ^ i % 2 : Nat) : Int)) := by
  refine (Ex.mod (Ex.floordiv ha (Ex.two hb hi) (by have := Nat.pow_pos (n := i) (show 0 < 2 by decide); omega) (sml_pow hi)) Ex.num (by decide)).cast ?_
  rw [fdiv_nat, Int.fmod_eq_emod_of_nonneg _ (by decide)]
  rfl
end

theorem Fn.bits {prog : Program} {w : World} (m n : Nat) (hn : n ≤ 100) : Fn prog w 1 30 [.int m, .int n] (keyD (bitsK m n)) := by
  refine Fn.of_body (xs := ["number", "n"]) (ys := []) rfl (fun pm code doc vs h => ?_) (by decide) (by decide +kernel) (by decide +kernel) (by decide +kernel) (by decide +kernel) fun F X hp hw ctx => ?_
  · match vs, h with
    | [x, y], _ => rfl
  have hsl : (100 : Nat) ≤ sizeLine := by decide
  show Sx F ⟨X, [("number", some (.int m)), ("n", some (.int n))], []⟩ (_ :: []) _
  have e : keyD (bitsK m n) = .tup ((List.range n).map fun i => Dt.int ((m / 2 ^ i % 2 : Nat) : Int)) := by
    unfold keyD bitsK; rw [List.map_map]; rfl
  rw [e]
  refine Sx.ret (Ex.tuple (ctx.gl (by decide +kernel)) (Ex.lc (List.range n) (fun i => .int (i : Int)) (fun i => Dt.int ((m / 2 ^ i % 2 : Nat) : Int)) [("number", some (.int m)), ("at", none)] ["number", "at"] rfl
    (Src.range ctx.room.1 (ctx.gl (by decide +kernel)) (Ex.name m1) (by omega)) (CompOk.of ctx.names (by decide +kernel)) rfl (by decide +kernel) (HG.free m0 (by decide +kernel) (HG.bare HG.nil)) (fun i hi C Y ic => ?_) (by simp; omega)) (by simp; omega))
  have hi' := List.mem_range.mp hi
  exact ⟨[("number", some (.int m)), ("at", some (.int i))], TgL.n (ic.lo (by decide +kernel)) s1, Ex.bit (Ex.name m0) (Ex.name m1) (by omega)⟩

/-! ## sums with signs -/
noncomputable def sumsStep (a : Nat) (l : List Int) (s : Nat) : List Int :=
  if s / 2 ^ a % 2 = 1 then (l.set (s - 2 ^ a) (l.getD (s - 2 ^ a) 0 + l.getD s 0)).set s (l.getD (s - 2 ^ a) 0 - l.getD s 0) else l
noncomputable def sumsRow (n : Nat) (l : List Int) (a : Nat) : List Int := (List.range (2 ^ n)).foldl (sumsStep a) l
noncomputable def sumsP (n : Nat) (l : List Int) : List Int := (List.range n).foldl (sumsRow n) l

theorem sumsStep_length (a : Nat) (l : List Int) (s : Nat) : (sumsStep a l s).length = l.length := by unfold sumsStep; split <;> simp
theorem foldl_len {α β : Type} (f : List β → α → List β) (h : ∀ l a, (f l a).length = l.length) (xs : List α) (l : List β) : (xs.foldl f l).length = l.length := by
  induction xs generalizing l with
  | nil => rfl
  | cons x xs ih => rw [List.foldl_cons, ih, h]
theorem sumsRow_length (n : Nat) (l : List Int) (a : Nat) : (sumsRow n l a).length = l.length := foldl_len _ (sumsStep_length a) _ l

theorem bit_le {s a : Nat} (h : s / 2 ^ a % 2 = 1) : 2 ^ a ≤ s := by
  refine Nat.not_lt.mp fun hlt => ?_
  rw [Nat.div_eq_of_lt hlt] at h
  exact absurd h (by decide)

section
variable {F : Fx}
theorem Ex.sub2 {σ : Ix} {a b : Expr} {m i : Nat} {p q r : Pos} {k : Nat} (ha : Ex F σ a (.int m)) (hb : Ex F σ b (.int i)) (hi : i ≤ 100) (hle : 2 ^ i ≤ m) :
    Ex F σ (.BinOp a .Sub (.BinOp (.Constant (.int 2) k p) .Pow b q) r) (.int ((m - 2 ^ i : Nat) : Int)) :=
  (Ex.sub ha (Ex.two hb hi)).cast (by rw [Int.ofNat_sub hle])
theorem getI {l : List Int} {i : Nat} (h : i < l.length) : (l.map Dt.int)[i]? = some (.int (l.getD i 0)) := by simp [h]
theorem setI {l : List Int} {i : Nat} {x : Int} : (l.map Dt.int).set i (.int x) = (l.set i x).map .int := by rw [List.map_set]
end

theorem Fn.sums {prog : Program} {w : World} (l : List Int) (n : Nat) (hn : n ≤ 4) (hl : l.length = 2 ^ n) : Fn prog w 1 31 [.list (l.map .int), .int n] (.list ((sumsP n l).map .int)) := by
  refine Fn.of_body (xs := ["signs", "n"]) (ys := ["found", "at", "spot", "low", "high"]) rfl (fun pm code doc vs h => ?_) (by decide) (by decide +kernel) (by decide +kernel) (by decide +kernel) (by decide +kernel) fun F X hp hw ctx => ?_
  · match vs, h with
    | [x, y], _ => rfl
  have hsl : (100 : Nat) ≤ sizeLine := by decide
  have h16 : 2 ^ n ≤ 16 := Nat.pow_le_pow_right (n := 2) (by decide) hn
  show Sx F ⟨X, [("signs", some (.list (l.map .int))), ("n", some (.int n)), ("found", none), ("at", none), ("spot", none), ("low", none), ("high", none)], []⟩ (_ :: _ :: _ :: []) _
  refine Sx.own (ExN.list (Ex.name m0) (ctx.gl (by decide +kernel)) (by simp; omega)) .l (ctx.ow (by decide +kernel)) (bS (by decide +kernel) (bS (by decide +kernel) (bO (bO (bO (bO (bO bN))))))) (by rfl) fun c hc => ?_
  have hc0 : F.s₀.heap.get? c = none := hc.elim id fun q => absurd q (ctx.pure c)
  refine Sx.cons (Es.for (List.range n) (fun i => .int (i : Int)) _ (fun _ => [("signs", some (.list (l.map .int))), ("n", some (.int n)), ("found", none), ("at", none), ("spot", none), ("low", none), ("high", none)]) (fun pre => [("found", c, .list ((pre.foldl (sumsRow n) l).map .int))]) rfl
    (Src.range ctx.room.1 (ctx.gl (by decide +kernel)) (Ex.name m1) (by omega)) (fun pre a post hpre => ?_)) rfl (Sx.retOwn hc0 (.inl rfl))
  have ha : a < n := List.mem_range.mp (by rw [hpre]; simp)
  refine ⟨[("signs", some (.list (l.map .int))), ("n", some (.int n)), ("found", none), ("at", some (.int a)), ("spot", none), ("low", none), ("high", none)], Tg.name (ctx.ow (by decide +kernel)) s3 (noΩ1 (X := X) (Γ := []) (by decide +kernel)), ?_⟩
  rw [List.foldl_append, List.foldl_cons, List.foldl_nil]
  have hlen : (pre.foldl (sumsRow n) l).length = 2 ^ n := by rw [foldl_len _ (sumsRow_length n), hl]
  generalize pre.foldl (sumsRow n) l = L at hlen ⊢
  refine Sx.cons (Es.for (List.range (2 ^ n)) (fun i => .int (i : Int)) _ (fun _ => [("signs", some (.list (l.map .int))), ("n", some (.int n)), ("found", none), ("at", some (.int a)), ("spot", none), ("low", none), ("high", none)]) (fun pre => [("found", c, .list ((pre.foldl (sumsStep a) L).map .int))]) rfl
    (Src.range ctx.room.1 (ctx.gl (by decide +kernel)) (Ex.two (Ex.name m1) (by omega)) (by omega)) (fun pre s post hpre => ?_)) rfl (Sx.nilF (FG.keep (FG.keep (FG.drop (FG.drop (FG.drop (FG.drop (FG.drop FG.nil))))))))
  have hs : s < 2 ^ n := List.mem_range.mp (by rw [hpre]; simp)
  refine ⟨[("signs", some (.list (l.map .int))), ("n", some (.int n)), ("found", none), ("at", some (.int a)), ("spot", some (.int s)), ("low", none), ("high", none)], Tg.name (ctx.ow (by decide +kernel)) s4 (noΩ1 (X := X) (Γ := []) (by decide +kernel)), ?_⟩
  rw [List.foldl_append, List.foldl_cons, List.foldl_nil]
  have hlen2 : (pre.foldl (sumsStep a) L).length = 2 ^ n := by rw [foldl_len _ (sumsStep_length a), hlen]
  generalize pre.foldl (sumsStep a) L = M at hlen2 ⊢
  have lM : (M.map Dt.int).length ≤ sizeLine := by simp; omega
  refine Sx.cons (Es.ifExec (c := decide (s / 2 ^ a % 2 = 1)) (Γ' := [("signs", some (.list (l.map .int))), ("n", some (.int n)), ("found", none), ("at", some (.int a)), ("spot", some (.int s)), ("low", none), ("high", none)]) (Ω' := [("found", c, .list ((sumsStep a M s).map .int))])
    ((Tx.cmp (Ex.bit (m := s) (i := a) (Ex.name m4) (Ex.name m3) (by omega)).c (Ex.num (i := 1)).c Cp.eq (by rfl)).cast ?_) (fun h => ?_) (fun h => ?_)) rfl (Sx.nilF (FG.keep (FG.keep (FG.keep (FG.keep (FG.drop (FG.keep (FG.keep FG.nil))))))))
  · by_cases h : s / 2 ^ a % 2 = 1
    · simp [h]
    · have : ((s / 2 ^ a % 2 : Nat) : Int) ≠ 1 := by omega
      rw [decide_eq_false h]; simpa using this
  · have hb : s / 2 ^ a % 2 = 1 := by simpa using h
    have hle := bit_le hb
    have hp := Nat.pow_pos (n := a) (show 0 < 2 by decide)
    have k1 : s - 2 ^ a < M.length := by omega
    have k2 : s < M.length := by omega
    unfold sumsStep
    rw [if_pos hb]
    refine Sx.cons (Es.assign2 (ctx.lo (by decide +kernel)) (ctx.lo (by decide +kernel)) ctx.fn ctx.room.1 (Ex.tpl (ds := [.int (M.getD (s - 2 ^ a) 0), .int (M.getD s 0)])
      (ExL.cons (Ex.itemL ExC.own1 (Ex.sub2 (Ex.name m4) (Ex.name m3) (by omega) hle) (Int.natCast_nonneg _) (by rw [Int.toNat_natCast]; exact getI k1) (by omega) (by intro _ _; rfl)) (ExL.cons (Ex.itemL ExC.own1 (Ex.name m4) (Int.natCast_nonneg _) (by rw [Int.toNat_natCast]; exact getI k2) (by omega) (by intro _ _; rfl)) ExL.nil)) (by simp)) s6 s5 (noΩ1 (by decide +kernel)) (noΩ1 (by decide +kernel)) (by decide +kernel)) rfl ?_
    rw [← setI, ← setI]
    refine Sx.cons (Es.set2L ctx.room.1 (Ex.tpl (ExL.cons (Ex.add (Ex.name m5) (Ex.name m6)) (ExL.cons (Ex.sub (Ex.name m5) (Ex.name m6)) ExL.nil)) (by simp)) (Ex.sub2 (Ex.name m4) (Ex.name m3) (by omega) hle) (Ex.name m4) (by simpa using k1) (by simpa using k2) lM swapped_sub) rfl
      (Sx.nilF (FG.keep (FG.keep (FG.keep (FG.keep (FG.keep (FG.drop (FG.drop FG.nil))))))))
  · have hb : ¬ (s / 2 ^ a % 2 = 1) := by simpa using h
    unfold sumsStep
    rw [if_neg hb]
    exact Sx.nil
end Mine
end

section
open PySem PySem.W PyProof.Rows PySem.Calls
set_option autoImplicit false
set_option maxRecDepth 100000
namespace Mine

/-! ## sums within -/
noncomputable def withinStep (a : Nat) (l : List Int) (s : Nat) : List Int := if s / 2 ^ a % 2 = 1 then l.set s (l.getD s 0 - l.getD (s - 2 ^ a) 0) else l
noncomputable def withinRow (n : Nat) (l : List Int) (a : Nat) : List Int := (List.range (2 ^ n)).foldl (withinStep a) l
noncomputable def withinP (n : Nat) (l : List Int) : List Int := (List.range n).foldl (withinRow n) l
theorem withinStep_length (a : Nat) (l : List Int) (s : Nat) : (withinStep a l s).length = l.length := by unfold withinStep; split <;> simp
theorem withinRow_length (n : Nat) (l : List Int) (a : Nat) : (withinRow n l a).length = l.length := foldl_len _ (withinStep_length a) _ l

theorem Fn.within {prog : Program} {w : World} (l : List Int) (n : Nat) (hn : n ≤ 4) (hl : l.length = 2 ^ n) : Fn prog w 1 32 [.list (l.map .int), .int n] (.list ((withinP n l).map .int)) := by
  refine Fn.of_body (xs := ["table", "n"]) (ys := ["found", "at", "spot"]) rfl (fun pm code doc vs h => ?_) (by decide) (by decide +kernel) (by decide +kernel) (by decide +kernel) (by decide +kernel) fun F X hp hw ctx => ?_
  · match vs, h with
    | [x, y], _ => rfl
  have hsl : (100 : Nat) ≤ sizeLine := by decide
  have h16 : 2 ^ n ≤ 16 := Nat.pow_le_pow_right (n := 2) (by decide) hn
  show Sx F ⟨X, [("table", some (.list (l.map .int))), ("n", some (.int n)), ("found", none), ("at", none), ("spot", none)], []⟩ (_ :: _ :: _ :: []) _
  refine Sx.own (ExN.list (Ex.name m0) (ctx.gl (by decide +kernel)) (by simp; omega)) .l (ctx.ow (by decide +kernel)) (bS (by decide +kernel) (bS (by decide +kernel) (bO (bO (bO bN))))) (by rfl) fun c hc => ?_
  have hc0 : F.s₀.heap.get? c = none := hc.elim id fun q => absurd q (ctx.pure c)
  refine Sx.cons (Es.for (List.range n) (fun i => .int (i : Int)) _ (fun _ => [("table", some (.list (l.map .int))), ("n", some (.int n)), ("found", none), ("at", none), ("spot", none)]) (fun pre => [("found", c, .list ((pre.foldl (withinRow n) l).map .int))]) rfl
    (Src.range ctx.room.1 (ctx.gl (by decide +kernel)) (Ex.name m1) (by omega)) (fun pre a post hpre => ?_)) rfl (Sx.retOwn hc0 (.inl rfl))
  have ha : a < n := List.mem_range.mp (by rw [hpre]; simp)
  refine ⟨[("table", some (.list (l.map .int))), ("n", some (.int n)), ("found", none), ("at", some (.int a)), ("spot", none)], Tg.name (ctx.ow (by decide +kernel)) s3 (noΩ1 (X := X) (Γ := []) (by decide +kernel)), ?_⟩
  rw [List.foldl_append, List.foldl_cons, List.foldl_nil]
  have hlen : (pre.foldl (withinRow n) l).length = 2 ^ n := by rw [foldl_len _ (withinRow_length n), hl]
  generalize pre.foldl (withinRow n) l = L at hlen ⊢
  refine Sx.cons (Es.for (List.range (2 ^ n)) (fun i => .int (i : Int)) _ (fun _ => [("table", some (.list (l.map .int))), ("n", some (.int n)), ("found", none), ("at", some (.int a)), ("spot", none)]) (fun pre => [("found", c, .list ((pre.foldl (withinStep a) L).map .int))]) rfl
    (Src.range ctx.room.1 (ctx.gl (by decide +kernel)) (Ex.two (Ex.name m1) (by omega)) (by omega)) (fun pre s post hpre => ?_)) rfl (Sx.nilF (FG.keep (FG.keep (FG.drop (FG.drop (FG.drop FG.nil))))))
  have hs : s < 2 ^ n := List.mem_range.mp (by rw [hpre]; simp)
  refine ⟨[("table", some (.list (l.map .int))), ("n", some (.int n)), ("found", none), ("at", some (.int a)), ("spot", some (.int s))], Tg.name (ctx.ow (by decide +kernel)) s4 (noΩ1 (X := X) (Γ := []) (by decide +kernel)), ?_⟩
  rw [List.foldl_append, List.foldl_cons, List.foldl_nil]
  have hlen2 : (pre.foldl (withinStep a) L).length = 2 ^ n := by rw [foldl_len _ (withinStep_length a), hlen]
  generalize pre.foldl (withinStep a) L = M at hlen2 ⊢
  have lM : (M.map Dt.int).length ≤ sizeLine := by simp; omega
  refine Sx.cons (Es.ifExec (c := decide (s / 2 ^ a % 2 = 1)) (Γ' := [("table", some (.list (l.map .int))), ("n", some (.int n)), ("found", none), ("at", some (.int a)), ("spot", some (.int s))]) (Ω' := [("found", c, .list ((withinStep a M s).map .int))])
    ((Tx.cmp (Ex.bit (m := s) (i := a) (Ex.name m4) (Ex.name m3) (by omega)).c (Ex.num (i := 1)).c Cp.eq (by rfl)).cast ?_) (fun h => ?_) (fun h => ?_)) rfl (Sx.nilF (FG.keep (FG.keep (FG.keep (FG.keep (FG.drop FG.nil))))))
  · by_cases h : s / 2 ^ a % 2 = 1
    · simp [h]
    · have : ((s / 2 ^ a % 2 : Nat) : Int) ≠ 1 := by omega
      rw [decide_eq_false h]; simpa using this
  · have hb : s / 2 ^ a % 2 = 1 := by simpa using h
    have hle := bit_le hb
    have hp := Nat.pow_pos (n := a) (show 0 < 2 by decide)
    have k1 : s - 2 ^ a < M.length := by omega
    have k2 : s < M.length := by omega
    unfold withinStep
    rw [if_pos hb, ← setI]
    exact Sx.cons (Es.subL (Ex.name m4) (getI k2) (Ex.itemL ExC.own1 (Ex.sub2 (Ex.name m4) (Ex.name m3) (by omega) hle) (Int.natCast_nonneg _) (by rw [Int.toNat_natCast]; exact getI k1) (by omega) (by intro _ _; rfl)) lM (by intros; rfl)) rfl Sx.nil
  · have hb : ¬ (s / 2 ^ a % 2 = 1) := by simpa using h
    unfold withinStep
    rw [if_neg hb]
    exact Sx.nil

/-! ## terms of a table -/
noncomputable def termsP (l : List Int) (below n : Nat) : Poly := (l.zipIdx.filter fun x => x.1 != 0).map fun x => (bitsK x.2 n, mkRat x.1 below)

theorem Fn.terms {prog : Program} {w : World} (l : List Int) (below n : Nat) (hn : n ≤ 100) (hl : l.length ≤ 100) (hb : below ≠ 0) (hbs : Sml 9000 (below : Int)) (hk : ((termsP l below n).map (·.1)).Nodup) :
    Fn prog w 3 33 [.list (l.map .int), .int below, .int n] (.dict (encP (termsP l below n))) := by
  refine Fn.of_body (xs := ["numbers", "below", "n"]) (ys := []) rfl (fun pm code doc vs h => ?_) (by decide) (by decide +kernel) (by decide +kernel) (by decide +kernel) (by decide +kernel) fun F X hp hw ctx => ?_
  · match vs, h with
    | [x, y, z], _ => rfl
  have hsl : (100 : Nat) ≤ sizeLine := by decide
  show Sx F ⟨X, [("numbers", some (.list (l.map .int))), ("below", some (.int below)), ("n", some (.int n))], []⟩ (_ :: []) _
  have e : encP (termsP l below n) = dbuild (encP (termsP l below n)) := (dbuild_nodup (by unfold encP; rw [List.map_map]; exact hk)).symm
  rw [e]
  have hle : (termsP l below n).length ≤ 100 := by
    unfold termsP
    rw [List.length_map]
    exact Nat.le_trans (List.length_filter_le _ _) (by simpa using hl)
  refine Sx.ret (ExN.ex (ExN.dictL ?_ (ctx.room.mono (by decide)) (ctx.gl (by decide +kernel)) (by simp [encP]; omega)))
  refine Ex.listCompP l.zipIdx (fun p => .tup [.int p.2, .int p.1]) (fun x => .tup [keyD (bitsK x.2 n), encR (mkRat x.1 below)]) (fun x => x.1 != 0) [("below", some (.int below)), ("n", some (.int n)), ("spot", none), ("one", none)]
    (enumD_ints l) (by simp [pairsD, encP, termsP]) (Src.enumL ctx.room.1 (ctx.gl (by decide +kernel)) (Ex.name m0)) (CompOk.of ctx.names (by decide +kernel)) (by show List.Nodup [("below" : Str), "n", "spot", "one"]; decide +kernel)
    (HG.free m1 (by decide +kernel) (HG.free m2 (by decide +kernel) (HG.bare (HG.bare HG.nil)))) (fun x hx C Y ic => ?_) (by simp; omega)
  refine ⟨[("below", some (.int below)), ("n", some (.int n)), ("spot", some (.int x.2)), ("one", some (.int x.1))], TgL.p ctx.room.1 (ic.lo (by decide +kernel)) (ic.lo (by decide +kernel)) s2 s3,
    TsOk.one ((Tx.cmp (Ex.name m3).c (Ex.num (i := 0)).c Cp.ne (by rfl)).cast rfl), fun _ => ?_⟩
  refine Ex.tpl (ExL.cons (Ex.call (Fn.bits x.2 n hn) (ctx.room.mono (by decide)) (ic.gl (by decide +kernel)) (ExL.cons (Ex.name m2) (ExL.cons (Ex.name m1) ExL.nil)) (by decide) (by rfl))
    (ExL.cons (Ex.call (Fn.rat x.1 below hb hbs) ctx.room (ic.gl (by decide +kernel)) (ExL.cons (Ex.name m3) (ExL.cons (Ex.name m0) ExL.nil)) (by decide) (by rfl)) ExL.nil)) (by simp)
end Mine
end

section
open PySem PySem.W PyProof.Rows PySem.Calls
set_option autoImplicit false
set_option maxRecDepth 100000
namespace Mine

/-! ## halves -/
noncomputable def halvesP (low high : List Poly) (n : Nat) : Nat → List Int → Poly
  | 0, t => if (t.getD 0 0 : Rat) = 0 then [] else [(zeroK n, (t.getD 0 0 : Rat))]
  | a + 1, t => padd (pmul (low.getD a []) (halvesP low high n a (t.take (2 ^ a)))) (pmul (high.getD a []) (halvesP low high n a (t.drop (2 ^ a))))

structure MulOk (a b : Poly) (n : Nat) : Prop where
  na : (a.map (·.1)).Nodup
  nb : (b.map (·.1)).Nodup
  ka : ∀ e ∈ a, e.1.length = n
  kb : ∀ e ∈ b, e.1.length = n
  sa : ∀ e ∈ a, SmR 4000 e.2
  sb : ∀ e ∈ b, SmR 4000 e.2
  ok : AddOk [] (trms a b)
structure SumOk (prog : Program) (w : World) (a b : Poly) : Prop where
  nb : (b.map (·.1)).Nodup
  ok : AddOk a b
  la : a.length ≤ 1000
  ha : HashOk prog w a

noncomputable def HOk (prog : Program) (w : World) (low high : List Poly) (n : Nat) : Nat → List Int → Prop
  | 0, _ => True
  | a + 1, t => HOk prog w low high n a (t.take (2 ^ a)) ∧ HOk prog w low high n a (t.drop (2 ^ a)) ∧ MulOk (low.getD a []) (halvesP low high n a (t.take (2 ^ a))) n ∧ MulOk (high.getD a []) (halvesP low high n a (t.drop (2 ^ a))) n ∧
    SumOk prog w (pmul (low.getD a []) (halvesP low high n a (t.take (2 ^ a)))) (pmul (high.getD a []) (halvesP low high n a (t.drop (2 ^ a))))

theorem encR_int (t : Int) : encR (t : Rat) = .tup [.int t, .int 1] := rfl

theorem Fn.halves {prog : Program} {w : World} (low high : List Poly) (n : Nat) (hn : 2 ≤ n ∧ n ≤ 4) (hll : low.length = n) (hlh : high.length = n) : ∀ (a : Nat) (t : List Int), a ≤ n → t.length = 2 ^ a → HOk prog w low high n a t →
    Fn prog w (6 + a) 34 [.list (t.map .int), .int a, .list (low.map fun p => .dict (encP p)), .list (high.map fun p => .dict (encP p)), .int n] (.dict (encP (halvesP low high n a t))) := by
  intro a
  induction a with
  | zero =>
    intro t _ ht _
    refine Fn.of_body (xs := ["table", "at", "low", "high", "n"]) (ys := ["half", "one", "other"]) rfl (fun pm code doc vs h => ?_) (by decide) (by decide +kernel) (by decide +kernel) (by decide +kernel) (by decide +kernel) fun F X hp hw ctx => ?_
    · match vs, h with
      | [x1, x2, x3, x4, x5], _ => rfl
    show Sx F ⟨X, [("table", some (.list (t.map .int))), ("at", some (.int 0)), ("low", some (.list (low.map fun p => .dict (encP p)))), ("high", some (.list (high.map fun p => .dict (encP p)))), ("n", some (.int n)), ("half", none), ("one", none), ("other", none)], []⟩ (_ :: _ :: _ :: _ :: []) _
    refine Sx.ifRet ((Tx.cmp (Ex.name m1).c (Ex.num (i := 0)).c Cp.eq (by rfl)).cast rfl) (Ex.call (Fn.mvnumber (t.getD 0 0 : Rat) n hn) (ctx.room.mono (by decide)) (ctx.gl (by decide +kernel)) (ExL.cons ?_ (ExL.cons (Ex.name m4) ExL.nil)) (by decide) (by rfl))
    rw [encR_int]
    exact Ex.tpl (ExL.cons (Ex.itemL (Ex.name m0).c Ex.num (by decide) (getI (i := 0) (by simp at ht; omega)) (by decide) (by intro _ _; rfl)) (ExL.cons Ex.num ExL.nil)) (by simp)
  | succ a ih =>
    intro t han ht ⟨h1, h2, h3, h4, h5⟩
    have hsl : (100 : Nat) ≤ sizeLine := by decide
    have h16 : 2 ^ (a + 1) ≤ 16 := Nat.le_trans (Nat.pow_le_pow_right (n := 2) (by decide) (show a + 1 ≤ 4 by omega)) (by decide)
    have e2 : 2 ^ (a + 1) = 2 ^ a + 2 ^ a := by rw [Nat.pow_succ]; omega
    refine Fn.of_body (xs := ["table", "at", "low", "high", "n"]) (ys := ["half", "one", "other"]) rfl (fun pm code doc vs h => ?_) (by decide) (by decide +kernel) (by decide +kernel) (by decide +kernel) (by decide +kernel) fun F X hp hw ctx => ?_
    · match vs, h with
      | [x1, x2, x3, x4, x5], _ => rfl
    show Sx F ⟨X, [("table", some (.list (t.map .int))), ("at", some (.int ((a + 1 : Nat) : Int))), ("low", some (.list (low.map fun p => .dict (encP p)))), ("high", some (.list (high.map fun p => .dict (encP p)))), ("n", some (.int n)), ("half", none), ("one", none), ("other", none)], []⟩ (_ :: _ :: _ :: _ :: []) _
    have sub1 : ∀ {σ : Ix} {p q r : Pos} {k : Nat}, ((("at" : Str), some (Dt.int ((a + 1 : Nat) : Int))) ∈ σ.Γ) → Ex F σ (.BinOp (.Name "at" p) .Sub (.Constant (.int 1) k q) r) (.int (a : Int)) := fun hm =>
      (Ex.sub (Ex.name hm) Ex.num).cast (by simp)
    refine Sx.ifF ((Tx.cmp (Ex.name m1).c (Ex.num (i := 0)).c Cp.eq (by rfl)).cast (by simp; omega)) Sx.nil ?_
    refine Sx.cons (Es.assign (ctx.ow (by decide +kernel)) (Ex.two (i := a) (sub1 m1) (by omega)) s5 noΩ (by rfl)) rfl ?_
    have lt : (t.map Dt.int).length ≤ sizeLine := by simp; omega
    have hroom : Room (6 + a) F.A := ctx.room
    have i1 := ih (t.take (2 ^ a)) (by omega) (by rw [List.length_take]; omega) h1
    have i2 := ih (t.drop (2 ^ a)) (by omega) (by rw [List.length_drop]; omega) h2
    rw [List.map_take] at i1
    rw [List.map_drop] at i2
    subst hp hw
    refine Sx.cons (Es.assign2 (ctx.lo (by decide +kernel)) (ctx.lo (by decide +kernel)) ctx.fn ctx.room.1 (Ex.tpl (ExL.cons
      (Ex.call i1 hroom (ctx.gl (by decide +kernel)) (ExL.cons (Ex.sliceTo (Ex.name m0).c (Ex.name m5) lt) (ExL.cons (sub1 m1) (ExL.cons (Ex.name m2) (ExL.cons (Ex.name m3) (ExL.cons (Ex.name m4) ExL.nil))))) (by decide) (by rfl))
      (ExL.cons (Ex.call i2 hroom (ctx.gl (by decide +kernel)) (ExL.cons (Ex.sliceFrom (Ex.name m0).c (Ex.name m5) lt) (ExL.cons (sub1 m1) (ExL.cons (Ex.name m2) (ExL.cons (Ex.name m3) (ExL.cons (Ex.name m4) ExL.nil))))) (by decide) (by rfl)) ExL.nil)) (by simp)) s7 s6 noΩ noΩ (by decide +kernel)) rfl ?_
    have lo : ((low.map fun p => Dt.dict (encP p)))[((a : Int)).toNat]? = some (.dict (encP (low.getD a []))) := by
      rw [Int.toNat_natCast]; simp [show a < low.length by omega]
    have hi : ((high.map fun p => Dt.dict (encP p)))[((a : Int)).toNat]? = some (.dict (encP (high.getD a []))) := by
      rw [Int.toNat_natCast]; simp [show a < high.length by omega]
    refine Sx.ret (Ex.call (Fn.mvadd _ _ h5.nb h5.ok h5.la h5.ha) (hroom.mono (by omega)) (ctx.gl (by decide +kernel)) (ExL.cons
      (Ex.call (Fn.mvmul _ _ n (by omega) h3.na h3.nb h3.ka h3.kb h3.sa h3.sb h3.ok) (hroom.mono (by omega)) (ctx.gl (by decide +kernel)) (ExL.cons (Ex.itemL (Ex.name m2).c (sub1 m1) (Int.natCast_nonneg _) lo (by omega) (by intro _ _; rfl)) (ExL.cons (Ex.name m6) ExL.nil)) (by decide) (by rfl))
      (ExL.cons (Ex.call (Fn.mvmul _ _ n (by omega) h4.na h4.nb h4.ka h4.kb h4.sa h4.sb h4.ok) (hroom.mono (by omega)) (ctx.gl (by decide +kernel)) (ExL.cons (Ex.itemL (Ex.name m3).c (sub1 m1) (Int.natCast_nonneg _) hi (by omega) (by intro _ _; rfl)) (ExL.cons (Ex.name m7) ExL.nil)) (by decide) (by rfl)) ExL.nil)) (by decide) (by rfl))
end Mine
end

section
open PySem PySem.W PyProof.Rows PySem.Calls
set_option autoImplicit false
set_option maxRecDepth 100000
namespace Mine

section
variable {F : Fx} {X : Addr → Prop} {Γ : List (Str × Option Dt)}
theorem Sx.ownX {x : Str} {px pos : Pos} {e : Expr} {d : Dt} {rest : List Stmt} {K : Flow → Shared → Prop} (he : ExN F ⟨X, Γ, []⟩ e d) (hd : IsCon d) (ho : Own F.env x) (hB : Bare x Γ)
    (hs : swapsWith e (some (.Name x px)) pos.line F.env = pure false)
    (hr : ∀ c, (F.s₀.heap.get? c = none ∨ F.W c) → ¬ X c → Sx F ⟨fun a => X a ∨ a = c, Γ, [(x, c, d)]⟩ rest K) : Sx F ⟨X, Γ, []⟩ (.Assign [.Name x px] e pos :: rest) K := fun s S =>
  wpAny_execs_cons (wpAny_Assign_Name (wpAny_mono (he s S) (fun v s₁ ⟨k1, c, ev, hn, r⟩ => by
    subst ev
    have h1 := (S.own1 k1 hn hd r).2.1
    have hX : ¬ X c := fun q => by obtain ⟨o, e⟩ := S.xin c q; rw [hn] at e; cases e
    refine wpAny_mono (S.own2 k1 hn hd r ho hB) (fun _ s₂ ⟨S₂, k2, _⟩ => ?_) fun _ _ e => e
    exact wpAny_mono (hr c h1 hX s₂ S₂) (fun f s₃ ⟨q, k3⟩ => ⟨q, keepX_then k2 k3 fun a ha => ha.imp id fun z => by rw [show a = c from z]; exact hn⟩) fun _ _ e => e) fun _ _ e => e) hs)

/-- the owned container becomes a datum as the others are -/
theorem Sx.release {x : Str} {c : Addr} {d : Dt} {Γ' : List (Str × Option Dt)} {rest : List Stmt} {K : Flow → Shared → Prop} (hX : ¬ X c) (h0 : F.s₀.heap.get? c = none) (hset : SetAt x d Γ Γ')
    (hr : Sx F ⟨X, Γ', []⟩ rest K) : Sx F ⟨fun a => X a ∨ a = c, Γ, [(x, c, d)]⟩ rest K := fun s S => by
  obtain ⟨H, r, hXc, _, hl, hcl⟩ := S.own _ (List.mem_singleton.mpr rfl)
  have S₀ : St F ⟨fun a => X a ∨ a = c, Γ, []⟩ s := { S with own := fun p hp => by cases hp }
  have S₁ : St F ⟨X, Γ, []⟩ s := S₀.less (fun a h => .inl h) (S.locX.elim id fun q => absurd q.symm hl) (fun x a e => (S.cells x a e).2.1.elim id fun q => absurd q (hcl x a e)) (fun p hp => by cases hp)
    (fun a ha => (S.xc a ha).elim id fun q => by obtain ⟨o, e⟩ := S.xclt a ha; rw [show a = c from q, h0] at e; cases e)
  have rd : Rd F.prog F.w X s.heap d (.ref c) := (r.sub (Y := X) fun a ha => .inl (.inl ha)).rd hX
  have S₂ : St F ⟨X, Γ', []⟩ s := { S₁ with
    names := by rw [hset.names]; exact S₁.names
    vals := fun y e hy => by
      rcases hset.other S₁.names y (some e) hy with ⟨q1, q2⟩ | ⟨_, q2⟩
      · subst q1; cases q2; exact ⟨.ref c, H, rd⟩
      · exact S₁.vals y e q2 }
  exact wpAny_mono (hr s S₂) (fun f s' ⟨q, k⟩ => ⟨q, fun b o e z => k b o e (z.imp (fun n h => n (.inl h)) id)⟩) fun _ _ e => e
end

/-! ## folded squares -/
noncomputable def modK (k : List Int) : List Int := k.map fun m => m.fmod 2
noncomputable def foldStep (f : Poly) (e : List Int × Rat) : Poly := aput f (modK e.1) (match f.lookup (modK e.1) with | some r => r + e.2 | none => e.2)
noncomputable def foldAcc (a : Poly) : Poly := a.foldl foldStep []
noncomputable def foldedP (a : Poly) : Poly := (foldAcc a).filter fun e => !decide (e.2 = 0)

theorem aput_keys {β : Type} (l : List (List Int × β)) (k : List Int) (d : β) (h : (l.map (·.1)).Nodup) : ((aput l k d).map (·.1)).Nodup := by
  unfold aput
  split
  · rw [List.map_map]
    have : ((fun e : List Int × β => e.1) ∘ fun e => if e.1 = k then (e.1, d) else e) = fun e => e.1 := by
      funext e; simp only [Function.comp]; split <;> rfl
    rw [this]; exact h
  · rename_i hk
    rw [List.map_append, List.nodup_append]
    refine ⟨h, by simp, fun a ha b hb q => hk ?_⟩
    simp at hb
    subst hb; subst q
    obtain ⟨e, he, rfl⟩ := List.mem_map.mp ha
    rw [mem_lookup h he]; rfl
theorem aput_length {β : Type} (l : List (List Int × β)) (k : List Int) (d : β) : (aput l k d).length ≤ l.length + 1 := by
  unfold aput; split <;> simp
theorem foldAcc_snoc (a : Poly) (e : List Int × Rat) : foldAcc (a ++ [e]) = foldStep (foldAcc a) e := by simp [foldAcc]
theorem foldl_ind {α β : Type} (P : β → Prop) (f : β → α → β) (h : ∀ b a, P b → P (f b a)) : ∀ (l : List α) (b : β), P b → P (l.foldl f b)
  | [], b, hb => hb
  | x :: l, b, hb => foldl_ind P f h l _ (h b x hb)
theorem foldAcc_nodup (a : Poly) : ((foldAcc a).map (·.1)).Nodup := foldl_ind (fun f : Poly => (f.map (·.1)).Nodup) foldStep (fun b e h => aput_keys _ _ _ h) a [] (by simp)
theorem foldAcc_length (a : Poly) : (foldAcc a).length ≤ a.length := by
  have : ∀ (l f : Poly), (l.foldl foldStep f).length ≤ f.length + l.length := by
    intro l
    induction l with
    | nil => intro f; simp
    | cons e l ih =>
      intro f
      rw [List.foldl_cons, List.length_cons]
      have h1 := ih (foldStep f e)
      have h2 := aput_length f (modK e.1) (match f.lookup (modK e.1) with | some r => r + e.2 | none => e.2)
      have h3 : (foldStep f e).length ≤ f.length + 1 := h2
      omega
  simpa [foldAcc] using this a []

noncomputable def FoldOk (a : Poly) : Prop := ∀ pre e post, a = pre ++ e :: post → SmR 4000 e.2 ∧ ∀ r, (foldAcc pre).lookup (modK e.1) = some r → SmR 4000 r

theorem Fn.folded {prog : Program} {w : World} (a : Poly) (ha : (a.map (·.1)).Nodup) (hl : a.length ≤ 1000) (hk : ∀ e ∈ a, e.1.length ≤ 100) (ho : FoldOk a) : Fn prog w 4 35 [.dict (encP a)] (.dict (encP (foldedP a))) := by
  refine Fn.of_body (xs := ["a"]) (ys := ["found", "powers", "spot"]) rfl (fun pm code doc vs h => ?_) (by decide) (by decide +kernel) (by decide +kernel) (by decide +kernel) (by decide +kernel) fun F X hp hw ctx => ?_
  · match vs, h with
    | [x], _ => rfl
  have hsl : (1000 : Nat) ≤ sizeLine := by decide
  have r0 : Room 0 F.A := ctx.room.mono (by decide)
  show Sx F ⟨X, [("a", some (.dict (encP a))), ("found", none), ("powers", none), ("spot", none)], []⟩ (_ :: _ :: _ :: []) _
  refine Sx.ownX ExN.dict0 .d (ctx.ow (by decide +kernel)) (bS (by decide +kernel) (bO (bO (bO bN)))) (by rfl) fun c hc hXc => ?_
  have hc0 : F.s₀.heap.get? c = none := hc.elim id fun q => absurd q (ctx.pure c)
  refine Sx.cons (Es.for a (fun e => keyD e.1) _ (fun _ => [("a", some (.dict (encP a))), ("found", none), ("powers", none), ("spot", none)]) (fun pre => [("found", c, .dict (encP (foldAcc pre)))]) (keys_encP a)
    (Src.dict ctx.room.1 (Ex.name m0)) (fun pre e post hpre => ?_)) rfl ?_
  · have hem : e ∈ a := by rw [hpre]; simp
    obtain ⟨o1, o2⟩ := ho pre e post hpre
    refine ⟨[("a", some (.dict (encP a))), ("found", none), ("powers", some (keyD e.1)), ("spot", none)], Tg.name (ctx.ow (by decide +kernel)) s2 (noΩ1 (X := X) (Γ := []) (by decide +kernel)), ?_⟩
    rw [foldAcc_snoc]
    have hlf : (encP (foldAcc pre)).length ≤ sizeLine := by
      have h1 := foldAcc_length pre
      have h2 : pre.length ≤ a.length := by rw [hpre]; simp
      simp [encP]; omega
    generalize hf : foldAcc pre = f at o2 hlf
    have lk : (encP f).lookup (modK e.1) = (f.lookup (modK e.1)).map encR := encP_lookup f _
    have ek : keyD (modK e.1) = .tup (e.1.map fun m => Dt.int (m.fmod 2)) := by unfold keyD modK; rw [List.map_map]; rfl
    refine Sx.cons (Es.assign (d := keyD (modK e.1)) (ctx.ow (by decide +kernel)) ?_ s3 (noΩ1 (by decide +kernel)) (by rfl)) rfl ?_
    · rw [ek]
      refine Ex.tuple (ctx.gl (by decide +kernel)) (Ex.lc e.1 Dt.int (fun m => Dt.int (m.fmod 2)) [("many", none)] ["many"] rfl (Src.tuple ctx.room.1 (Ex.name m2)) (CompOk.of ctx.names (by decide +kernel)) rfl (by decide +kernel) (HG.bare HG.nil) (fun m hm C Y ic => ?_) (by have := hk e hem; omega)) (by simp; have := hk e hem; omega)
      exact ⟨[("many", some (.int m))], TgL.n (ic.lo (by decide +kernel)) s0, Ex.mod (Ex.name m0) Ex.num (by decide)⟩
    · have hfin : encP (foldStep f e) = dput (encP f) (modK e.1) (encR (match f.lookup (modK e.1) with | some r => r + e.2 | none => e.2)) := encP_put f _ _
      rw [hfin]
      generalize ht : (match f.lookup (modK e.1) with | some r => r + e.2 | none => e.2) = t
      refine Sx.cons (Es.setD r0 ?_ (Ex.name m3) hlf (by rfl)) rfl (Sx.nilF (FG.keep (FG.keep (FG.drop (FG.drop FG.nil)))))
      have item : ∀ {σ : Ix} {p q r : Pos}, ((("a" : Str), some (Dt.dict (encP a))) ∈ σ.Γ) → ((("powers" : Str), some (keyD e.1)) ∈ σ.Γ) → Ex F σ (.Subscript (.Name "a" p) (.Name "powers" q) r) (encR e.2) := fun h1 h2 =>
        Ex.itemD (Ex.name h1).c (Ex.name h2) (by rw [encP_lookup, mem_lookup ha hem]; rfl) r0 (by intro _ _; rfl)
      cases hfk : f.lookup (modK e.1) with
      | some r =>
        rw [hfk] at ht
        subst ht
        exact Ex.ifTrue ((Tx.cmp (Ex.name m3).c ExC.own1 (Cp.inD r0) (by rfl)).cast (by rw [lk, hfk]; rfl)) (Ex.call (Fn.radd r e.2 (o2 r hfk) o1) ctx.room (ctx.gl (by decide +kernel)) (ExL.cons (Ex.itemD ExC.own1 (Ex.name m3) (by rw [lk, hfk]; rfl) r0 (by intro _ _; rfl)) (ExL.cons (item m0 m2) ExL.nil)) (by decide) (by rfl))
      | none =>
        rw [hfk] at ht
        subst ht
        exact Ex.ifFalse ((Tx.cmp (Ex.name m3).c ExC.own1 (Cp.inD r0) (by rfl)).cast (by rw [lk, hfk]; rfl)) (item m0 m2)
  · have hn := foldAcc_nodup a
    have hlen := foldAcc_length a
    refine Sx.release hXc hc0 s1 ?_
    have hnf : ((foldedP a).map (·.1)).Nodup := List.Sublist.nodup (List.Sublist.map _ List.filter_sublist) hn
    have e : encP (foldedP a) = dbuild (encP (foldedP a)) := (dbuild_nodup (by unfold encP; rw [List.map_map]; exact hnf)).symm
    rw [e]
    have hlf : (foldedP a).length ≤ 1000 := Nat.le_trans (List.length_filter_le _ _) (by omega)
    refine Sx.ret (ExN.ex (ExN.dictL ?_ (ctx.room.mono (by decide)) (ctx.gl (by decide +kernel)) (by simp [encP]; omega)))
    refine Ex.listCompP (foldAcc a) (fun e => keyD e.1) (fun e => .tup [keyD e.1, encR e.2]) (fun e => !decide (e.2 = 0)) [("found", some (.dict (encP (foldAcc a)))), ("spot", none)]
      (keys_encP _) (by simp [pairsD, encP, foldedP]) (Src.dict ctx.room.1 (Ex.name m1)) (CompOk.of ctx.names (by decide +kernel)) (by show List.Nodup [("found" : Str), "spot"]; decide +kernel)
      (HG.free m1 (by decide +kernel) (HG.bare HG.nil)) (fun x hx C Y ic => ?_) (by omega)
    have item : ∀ (F' : Fx) (hr : Room 0 F'.A) {p q r : Pos}, Ex F' ⟨Y, [("found", some (.dict (encP (foldAcc a)))), ("spot", some (keyD x.1))], []⟩ (.Subscript (.Name "found" p) (.Name "spot" q) r) (encR x.2) := fun F' hr =>
      Ex.itemD (Ex.name m0).c (Ex.name m1) (by rw [encP_lookup, mem_lookup hn hx]; rfl) hr (by intro _ _; rfl)
    refine ⟨[("found", some (.dict (encP (foldAcc a)))), ("spot", some (keyD x.1))], TgL.n (ic.lo (by decide +kernel)) s1, TsOk.one ((Tx.cmp (item (cF F _ C) r0).c (Ex.cast (Ex.tpl (ExL.cons Ex.num (ExL.cons Ex.num ExL.nil)) (by simp)) (show _ = keyD [0, 1] from rfl)).c (Cp.neT r0) (by rfl)).cast (by rw [rat0])), fun _ => ?_⟩
    exact Ex.tpl (ExL.cons (Ex.name m1) (ExL.cons (item (cF F _ C) r0) ExL.nil)) (by simp)
end Mine
end

section
open PySem PySem.W PyProof.Rows PySem.Calls
set_option autoImplicit false
set_option maxRecDepth 100000
namespace Mine

section
variable {F : Fx} {X : Addr → Prop} {Γ : List (Str × Option Dt)}
/-- x, y = (e, []) -/
theorem Sx.own2L {x y : Str} {p q tp vp lp pos : Pos} {k k' : Nat} {e : Expr} {d : Dt} {Γ' : List (Str × Option Dt)} {rest : List Stmt} {K : Flow → Shared → Prop} (hx : (x == ("__debug__" : Str)) = false ∧ F.env.kindOf x = some .local) (hy : (y == ("__debug__" : Str)) = false ∧ F.env.kindOf y = some .local) (hf : F.env.scope.kind = .function)
    (hh : F.A.handled = none) (he : Ex F ⟨X, Γ, []⟩ e d) (hB : Bare y Γ) (hset : SetAt x d Γ Γ') (hyx : (y == x) = false) (hse : ∀ env, starEach [e, .List [] lp] env = (false, eval e env) :: [(false, eval (.List [] lp) env)])
    (hc : (p.line == q.line && !(x == y) && !([e, .List [] lp].any fun | .Starred .. => true | _ => false) && !([e, .List [] lp].all (foldedForSure 8)) && !([e, .List [] lp].all (constantsAlone 8))) = true)
    (hr : ∀ c, (F.s₀.heap.get? c = none ∨ F.W c) → Sx F ⟨fun a => X a ∨ a = c, Γ', [(y, c, .plist [])]⟩ rest K) :
    Sx F ⟨X, Γ, []⟩ (.Assign [.Tuple [.Name x p, .Name y q] k tp] (.Tuple [e, .List [] lp] k' vp) pos :: rest) K := fun s S => by
  simp only [Bool.and_eq_true, beq_iff_eq, Bool.not_eq_true'] at hc
  obtain ⟨⟨⟨⟨c1, c2⟩, c4⟩, c5⟩, c6⟩ := hc
  refine wpAny_execs_cons (Assign_Tuple_swapped ?_ (hw := swapped2 hx.2 hy.2 hf c1 c2 rfl c4 c5 c6))
  refine Tuple_ ?_
  rw [hse]
  refine spliced_cons (wpAny_mono (he s S) (fun v₁ s₁ ⟨k1, r1⟩ => ?_) fun _ _ e => e)
  have S₁ := S.keeps k1
  have e1 : (fun (t : Bool × Sem Value) => t) (false, eval (.List [] lp) F.env) = (false, eval (.List [] lp) F.env) := rfl
  refine spliced_cons (List_ (spliced_nil (wpAny_newObj_type ?_ (show (0 : Nat) ≤ sizeLine by decide))))
  have kp := St.pushK (o := { cls := .type "list", data := .seq ([] : List Value).toArray }) S₁
  refine spliced_nil (wpAny_newObj_type ?_ (show (2 : Nat) ≤ sizeLine by decide))
  have S₂ := S₁.keeps kp
  have kt := St.pushK (o := { cls := .type "tuple", data := .seq ([v₁, .ref s₁.heap.objs.size] : List Value).toArray }) S₂
  have hgo := unpackItems_tuple (prog := F.prog) (w := F.w) (A := F.A) (E := NoE) (s := { s₁ with heap := (s₁.heap.push { cls := .type "list", data := .seq ([] : List Value).toArray }).push { cls := .type "tuple", data := .seq ([v₁, .ref s₁.heap.objs.size] : List Value).toArray } })
    (Q := fun items s₂ => wpAny (model F.prog F.w) F.A (assignInOrder ([x, y].reverse.map fun n => bindName F.env n) items.reverse) (fun _ s' => wpAny (model F.prog F.w) F.A (execs rest F.env) (fun f s'' => K f s'' ∧ KeepX X s.heap s''.heap) NoE s') NoE s₂)
    hh (IsTup.new (s₁.heap.push { cls := .type "list", data := .seq ([] : List Value).toArray }) ([v₁, .ref s₁.heap.objs.size] : List Value).toArray) (fun h' hee => ?_)
  · exact hgo
  have k2 : Kp s { s₁ with heap := h' } := (((k1.trans kp).trans kt).trans ⟨h', s₁.toks, rfl, fun b o e => hee b o (Nat.ne_of_lt (Heap.lt_size e)) e⟩)
  have k1' : Kp s₁ { s₁ with heap := h' } := ((kp.trans kt).trans ⟨h', s₁.toks, rfl, fun b o e => hee b o (Nat.ne_of_lt (Heap.lt_size e)) e⟩)
  have kL : Keep (s₁.heap.push { cls := .type "list", data := .seq ([] : List Value).toArray }) h' := ((kt.trans ⟨h', s₁.toks, rfl, fun b o e => hee b o (Nat.ne_of_lt (Heap.lt_size e)) e⟩ : Kp _ { s₁ with heap := h' })).k
  have hn : s.heap.get? s₁.heap.objs.size = none := get_none k1.k (Nat.le_refl _)
  have rc : RdC F.prog F.w (fun a => X a ∨ a = s₁.heap.objs.size) h' (.plist []) (.ref s₁.heap.objs.size) := by
    refine ⟨_, #[], rfl, ⟨_, kL _ _ (Heap.get?_push_size _ rfl)⟩, by simp [RdL]⟩
  have r1' : Rd F.prog F.w (fun a => X a ∨ a = s₁.heap.objs.size) h' d v₁ := (r1.sub fun a ha => ha.imp id fun q => by rw [show a = _ from q]; exact notAt (Nat.le_refl _)).keep k1'.k
  show wpAny _ _ (assignInOrder [bindName F.env y, bindName F.env x] [.ref s₁.heap.objs.size, v₁]) _ _ _
  have h1 := (S.own1 k2 hn .p rc).2.1
  refine assignInOrder_cons (bindName_ (wpAny_mono (S.own2 k2 hn .p rc ⟨hy.1, .inl hy.2⟩ hB) (fun _ s₃ ⟨S₃, k3, k3'⟩ => ?_) fun _ _ e => e))
  refine assignInOrder_cons (bindName_ (wpAny_mono (S₃.store (.inl hx.2) hx.1 (r1'.keepX k3') hset (noΩ1 hyx)) (fun _ s₄ ⟨S₄, k4⟩ => ?_) fun _ _ e => e))
  refine assignInOrder_nil ?_
  have hsub : ∀ a, (X a ∨ a = s₁.heap.objs.size) → X a ∨ s.heap.get? a = none := fun a ha => ha.imp id fun q => by rw [show a = _ from q]; exact hn
  refine wpAny_mono (hr _ h1 s₄ S₄) (fun f s₅ ⟨q, k5⟩ => ⟨q, ?_⟩) fun _ _ e => e
  exact keepX_then (keepX_then k3 k4 hsub) k5 hsub
end
end Mine
end

section
open PySem PySem.W PyProof.Rows PySem.Calls
set_option autoImplicit false
set_option maxRecDepth 100000
namespace Mine

noncomputable def rowsK (n : Nat) : List (List Int) := (List.range (2 ^ n)).map fun s => bitsK s n
noncomputable def otherT (beside : List Int) (p : Int × Nat) : Int := ((2 ^ p.2 : Nat) : Int) * (p.1 + beside.getD p.2 0).fmod 2
noncomputable def otherK (row beside : List Int) : Int := (row.zipIdx.map (otherT beside)).sum
noncomputable def totStep (signs beside : List Int) (t : Int) (x : List Int × Nat) : Int := t + signs.getD x.2 0 * signs.getD (otherK x.1 beside).toNat 0
noncomputable def totalP (signs : List Int) (n : Nat) (beside : List Int) : Int := (rowsK n).zipIdx.foldl (totStep signs beside) 0
noncomputable def alikeP (signs : List Int) (n : Nat) : List Int := (rowsK n).map (totalP signs n)

theorem enumD_keys (l : List (List Int)) : enumD (l.map keyD) = l.zipIdx.map fun p => .tup [.int p.2, keyD p.1] := by
  unfold enumD
  rw [List.zipIdx_map, List.map_map]
  rfl

theorem Fn.alike {prog : Program} {w : World} (signs : List Int) (n : Nat) (hn : n ≤ 4) (hl : signs.length = 2 ^ n) (hs : ∀ x ∈ signs, Sml 10 x) (hoth : ∀ r ∈ rowsK n, ∀ b ∈ rowsK n, 0 ≤ otherK r b ∧ (otherK r b).toNat < 2 ^ n) (hrow : ∀ r ∈ rowsK n, r.length = n ∧ ∀ x ∈ r, x = 0 ∨ x = 1) :
    Fn prog w 2 36 [.list (signs.map .int), .int n] (.list ((alikeP signs n).map .int)) := by
  refine Fn.of_body (xs := ["signs", "n"]) (ys := ["rows", "found", "beside", "total", "spot", "row", "other"]) rfl (fun pm code doc vs h => ?_) (by decide) (by decide +kernel) (by decide +kernel) (by decide +kernel) (by decide +kernel) fun F X hp hw ctx => ?_
  · match vs, h with
    | [x, y], _ => rfl
  have hsl : (100 : Nat) ≤ sizeLine := by decide
  have h16 : 2 ^ n ≤ 16 := Nat.pow_le_pow_right (n := 2) (by decide) hn
  have hrl : (rowsK n).length = 2 ^ n := by simp [rowsK]
  show Sx F ⟨X, [("signs", some (.list (signs.map .int))), ("n", some (.int n)), ("rows", none), ("found", none), ("beside", none), ("total", none), ("spot", none), ("row", none), ("other", none)], []⟩ (_ :: _ :: _ :: []) _
  refine Sx.own2L (ctx.lo (by decide +kernel)) (ctx.lo (by decide +kernel)) ctx.fn ctx.room.1 (d := .list ((rowsK n).map keyD)) ?_ (bS (by decide +kernel) (bS (by decide +kernel) (bO (bO (bO (bO (bO (bO (bO bN))))))))) s2 (by decide +kernel) (by intro _; rfl) (by decide +kernel) fun c hc => ?_
  · unfold rowsK
    rw [List.map_map]
    refine Ex.lc (List.range (2 ^ n)) (fun i => .int (i : Int)) (fun s => keyD (bitsK s n)) [("n", some (.int n)), ("spot", none)] ["n", "spot"] rfl (Src.range ctx.room.1 (ctx.gl (by decide +kernel)) (Ex.two (Ex.name m1) (by omega)) (by omega))
      (CompOk.of ctx.names (by decide +kernel)) rfl (by decide +kernel) (HG.free m1 (by decide +kernel) (HG.bare HG.nil)) (fun s hs C Y ic => ?_) (by simp; omega)
    exact ⟨[("n", some (.int n)), ("spot", some (.int s))], TgL.n (ic.lo (by decide +kernel)) s1, Ex.call (Fn.bits s n (by omega)) (ctx.room.mono (by decide)) (ic.gl (by decide +kernel)) (ExL.cons (Ex.name m1) (ExL.cons (Ex.name m0) ExL.nil)) (by decide) (by rfl)⟩
  have hc0 : F.s₀.heap.get? c = none := hc.elim id fun q => absurd q (ctx.pure c)
  refine Sx.cons (Es.for (rowsK n) keyD _ (fun _ => [("signs", some (.list (signs.map .int))), ("n", some (.int n)), ("rows", some (.list ((rowsK n).map keyD))), ("found", none), ("beside", none), ("total", none), ("spot", none), ("row", none), ("other", none)])
    (fun pre => [("found", c, .plist ((pre.map (totalP signs n)).map .int))]) rfl (Src.list ctx.room.1 (Ex.name m2)) (fun pre b post hpre => ?_)) rfl (Sx.retOwn hc0 (.inr ⟨_, rfl, rfl⟩))
  have hbm : b ∈ rowsK n := by rw [hpre]; simp
  have hpl : pre.length ≤ 16 := by
    have := congrArg List.length hpre
    rw [hrl] at this; simp at this; omega
  refine ⟨[("signs", some (.list (signs.map .int))), ("n", some (.int n)), ("rows", some (.list ((rowsK n).map keyD))), ("found", none), ("beside", some (keyD b)), ("total", none), ("spot", none), ("row", none), ("other", none)], Tg.name (ctx.ow (by decide +kernel)) s4 (noΩ1 (X := X) (Γ := []) (by decide +kernel)), ?_⟩
  refine Sx.cons (Es.assign (d := .int 0) (ctx.ow (by decide +kernel)) Ex.num s5 (noΩ1 (by decide +kernel)) (by rfl)) rfl ?_
  refine Sx.cons (Es.for (rowsK n).zipIdx (fun p => .tup [.int p.2, keyD p.1]) _ (fun ps => [("signs", some (.list (signs.map .int))), ("n", some (.int n)), ("rows", some (.list ((rowsK n).map keyD))), ("found", none), ("beside", some (keyD b)), ("total", some (.int (ps.foldl (totStep signs b) 0))), ("spot", none), ("row", none), ("other", none)])
    (fun _ => [("found", c, .plist ((pre.map (totalP signs n)).map .int))]) (enumD_keys _) (Src.enumL ctx.room.1 (ctx.gl (by decide +kernel)) (Ex.name m2)) (fun ps x qs hps => ?_)) rfl ?_
  · have hxm : x ∈ (rowsK n).zipIdx := by rw [hps]; simp
    obtain ⟨r, i⟩ := x
    have hmi := List.mem_zipIdx hxm
    simp only [Nat.zero_add, Nat.sub_zero] at hmi
    have hi : i < signs.length := by rw [hl, ← hrl]; exact hmi.2.1
    have hrm : r ∈ rowsK n := by rw [hmi.2.2]; exact List.getElem_mem _
    obtain ⟨ho1, ho2⟩ := hoth r hrm b hbm
    obtain ⟨hr1, hr2⟩ := hrow r hrm
    obtain ⟨hb1, hb2⟩ := hrow b hbm
    have g10 : ∀ j, j < signs.length → Sml 10 (signs.getD j 0) := fun j hj => by
      rw [List.getD_eq_getElem?_getD, List.getElem?_eq_getElem hj]
      exact hs _ (List.getElem_mem _)
    have ho2' : (otherK r b).toNat < signs.length := by rw [hl]; exact ho2
    refine ⟨[("signs", some (.list (signs.map .int))), ("n", some (.int n)), ("rows", some (.list ((rowsK n).map keyD))), ("found", none), ("beside", some (keyD b)), ("total", some (.int (ps.foldl (totStep signs b) 0))), ("spot", some (.int i)), ("row", some (keyD r)), ("other", none)],
      Tg.pair ctx.room.1 (ctx.ow (by decide +kernel)) (ctx.ow (by decide +kernel)) s6 s7 (noΩ1 (X := X) (Γ := []) (by decide +kernel)) (noΩ1 (X := X) (Γ := []) (by decide +kernel)), ?_⟩
    refine Sx.cons (Es.assign (d := .int (otherK r b)) (ctx.ow (by decide +kernel)) (Ex.sumL (l := r.zipIdx.map (otherT b)) ctx.room.1 (ctx.gl (by decide +kernel)) ?_) s8 (noΩ1 (by decide +kernel)) (by rfl)) rfl ?_
    · refine Ex.cast (Ex.lc r.zipIdx (fun p => .tup [.int p.2, .int p.1]) (fun p => Dt.int (otherT b p)) [("beside", some (keyD b)), ("at", none), ("bit", none)] ["beside", "at", "bit"] (enumD_ints r) (Src.enumT ctx.room.1 (ctx.gl (by decide +kernel)) (Ex.name m7))
        (CompOk.of ctx.names (by decide +kernel)) rfl (by decide +kernel) (HG.free m4 (by decide +kernel) (HG.bare (HG.bare HG.nil))) (fun p hp C Y ic => ?_) (by simp; omega)) (by rw [List.map_map]; rfl)
      obtain ⟨m, j⟩ := p
      have hmj := List.mem_zipIdx hp
      simp only [Nat.zero_add, Nat.sub_zero] at hmj
      have hj : j < b.length := by omega
      have hj4 : j < 4 := by omega
      have hfm : Sml 2 ((m + b.getD j 0).fmod 2) := by
        unfold Sml
        have h1 := Int.fmod_nonneg_of_pos (m + b.getD j 0) (show (0 : Int) < 2 by decide)
        have h2 := Int.fmod_lt_of_pos (m + b.getD j 0) (show (0 : Int) < 2 by decide)
        omega
      have hpw : Sml 10 ((2 ^ j : Nat) : Int) := by
        unfold Sml
        rw [Int.natAbs_natCast]
        exact Nat.pow_lt_pow_right (by decide) (by omega)
      refine ⟨[("beside", some (keyD b)), ("at", some (.int j)), ("bit", some (.int m))], TgL.p ctx.room.1 (ic.lo (by decide +kernel)) (ic.lo (by decide +kernel)) s1 s2, ?_⟩
      refine Ex.mul (Ex.two (Ex.name m1) (by omega)) (Ex.mod (Ex.add (Ex.name m2) (Ex.itemT (Ex.name m0) (Ex.name m1) (Int.natCast_nonneg _) (by simp [hj]) (by omega) (by intro _ _; rfl))) Ex.num (by decide)) (Sml.mulOk (hpw.mono (by decide)) (hfm.mono (by decide)))
    · rw [List.foldl_append, List.foldl_cons, List.foldl_nil]
      refine Sx.cons (Es.iadd (ctx.ow (by decide +kernel)) m5 (Ex.mul (Ex.itemL (Ex.name m0).c (Ex.name m6) (Int.natCast_nonneg _) (by rw [Int.toNat_natCast]; exact getI hi) (by omega) (by intro _ _; rfl)) (Ex.itemL (Ex.name m0).c (Ex.name m8) ho1 (getI ho2') (by omega) (by intro _ _; rfl)) (Sml.mulOk ((g10 _ hi).mono (by decide)) ((g10 _ ho2').mono (by decide)))) s5 (noΩ1 (by decide +kernel))) rfl
        (Sx.nilF (FG.keep (FG.keep (FG.keep (FG.keep (FG.keep (FG.keep (FG.drop (FG.drop (FG.drop FG.nil))))))))))
  · rw [List.map_append, List.map_append]
    exact Sx.cons (Es.append (d := .int (totalP signs n b)) (Ex.name m5) (by simp; omega) (by rfl) (by rfl) (by rfl) (fin_quiet ctx.fn) (by rfl)) rfl (Sx.nilF (FG.keep (FG.keep (FG.keep (FG.keep (FG.drop (FG.drop (FG.drop (FG.drop (FG.drop FG.nil))))))))))
end Mine
end

section
open PySem PySem.W PyProof.Rows PySem.Calls
set_option autoImplicit false
set_option maxRecDepth 100000
namespace Mine

section
variable {F : Fx} {X : Addr → Prop} {Γ : List (Str × Option Dt)} {x : Str} {c : Addr} {d d₁ : Dt}
theorem Sx.retW {e : Expr} {pos : Pos} {rest : List Stmt} (h : Ex F ⟨X, Γ, [(x, c, d₁)]⟩ e d) : Sx F ⟨X, Γ, [(x, c, d₁)]⟩ (.Return (some e) pos :: rest) (RetKW F c d d₁) := fun s S => by
  refine wpAny_execs_cons (wpAny_Return_some (wpAny_mono (h s S) (fun v s₁ ⟨k1, r1⟩ => ?_) fun _ _ e => e))
  have S₁ := S.keeps k1
  obtain ⟨_, rc, _⟩ := S₁.own _ (List.mem_singleton.mpr rfl)
  exact ⟨⟨r1.sub fun a ha => .inl (S₁.xc a ha), S₁.sh, S₁.keep, rc.sub fun a ha => .inl (S₁.xc a ha)⟩, k1.k.x⟩
theorem Sx.ifRetW {t e : Expr} {o rest : List Stmt} {pos p : Pos} (ht : Tx F ⟨X, Γ, [(x, c, d₁)]⟩ t true) (h : Ex F ⟨X, Γ, [(x, c, d₁)]⟩ e d) : Sx F ⟨X, Γ, [(x, c, d₁)]⟩ (.If t [.Return (some e) p] o pos :: rest) (RetKW F c d d₁) := fun s S =>
  wpAny_execs_cons (wpAny_If (wpAny_mono (ht s S) (fun b s₁ ⟨k1, q⟩ => by
    subst q
    rw [if_pos rfl]
    have S₁ := S.keeps k1
    refine wpAny_execs_cons (wpAny_Return_some (wpAny_mono (h s₁ S₁) (fun v s₂ ⟨k2, r1⟩ => ?_) fun _ _ e => e))
    have S₂ := S₁.keeps k2
    obtain ⟨_, rc, _⟩ := S₂.own _ (List.mem_singleton.mpr rfl)
    exact ⟨⟨r1.sub fun a ha => .inl (S₂.xc a ha), S₂.sh, S₂.keep, rc.sub fun a ha => .inl (S₂.xc a ha)⟩, (k1.trans k2).k.x⟩) fun _ _ e => e))
end

theorem ExL.num {F : Fx} {σ : Ix} {i : Int} {k : Nat} {p : Pos} {es : List Expr} {ds : List Dt} (h : ExL F σ es ds) : ExL F σ (.Constant (.int i) k p :: es) (.int i :: ds) := ExL.cons Ex.num h (fun _ => rfl)

noncomputable def drawC : List Nat := [1, 0, 0, 0, 1, 0, 1, 1, 1, 0, 1, 3]
noncomputable def drawV (cells : List Int) (p many : Nat) : Nat := (if p < cells.length then (cells.getD p 0).natAbs else drawC.getD (p % 12) 0) % many
noncomputable abbrev drawL : List Dt := [.int 1, .int 0, .int 0, .int 0, .int 1, .int 0, .int 1, .int 1, .int 1, .int 0, .int 1, .int 3]
theorem drawL_get (k : Nat) (h : k < 12) : drawL[k]? = some (.int ((drawC.getD k 0 : Nat) : Int)) := by
  match k, h with
  | 0, _ => rfl
  | 1, _ => rfl
  | 2, _ => rfl
  | 3, _ => rfl
  | 4, _ => rfl
  | 5, _ => rfl
  | 6, _ => rfl
  | 7, _ => rfl
  | 8, _ => rfl
  | 9, _ => rfl
  | 10, _ => rfl
  | 11, _ => rfl
noncomputable def poolD (cells : List Int) (p : Nat) : Dt := .list [.list (cells.map .int), .int (p : Int)]

theorem Fn.draw {prog : Program} {w : World} (cells : List Int) (p many : Nat) (hl : cells.length ≤ 100) (hp : p ≤ 1000) (hm : many ≠ 0) : FnW prog w 1 29 (poolD cells p) [.int many] (.int (drawV cells p many)) (poolD cells (p + 1)) := by
  refine FnW.of_body (x₀ := "pool") (xs := ["many"]) (ys := ["spot"]) rfl .l (fun pm code doc vs h => ?_) (by decide) (by decide +kernel) (by decide +kernel) (by decide +kernel) (by decide +kernel) fun F X c _ hw ctx => ?_
  · match vs, h with
    | [x, y], _ => rfl
  have hsl : (100 : Nat) ≤ sizeLine := by decide
  have hmi : (many : Int) ≠ 0 := by simpa using hm
  show Sx F ⟨X, [("many", some (.int many)), ("spot", none)], [("pool", c, .list [.list (cells.map .int), .int (p : Int)])]⟩ (_ :: _ :: _ :: _ :: []) _
  refine Sx.cons (Es.assign (d := .int (p : Int)) (ctx.ow (by decide +kernel)) (Ex.itemL ExC.own1 Ex.num (by decide) (by rfl) (by decide) (by intro _ _; rfl)) s1 (noΩ1 (by decide +kernel)) (by rfl)) rfl ?_
  refine Sx.cons (Es.setL (d := .int ((p : Int) + 1)) (k := 1) (Ex.add (Ex.name m1) Ex.num) Ex.num (show (1 : Nat) < 2 by decide) (show (2 : Nat) ≤ sizeLine by decide) (by rfl)) rfl ?_
  show Sx F ⟨X, [("many", some (.int many)), ("spot", some (.int p))], [("pool", c, .list [.list (cells.map .int), .int ((p : Int) + 1)])]⟩ _ (RetKW F c (.int (drawV cells p many)) (.list [.list (cells.map .int), .int ((p : Int) + 1)]))
  have inner : ∀ {q r : Pos} {k : Nat} {r' : Pos}, Ex F ⟨X, [("many", some (.int many)), ("spot", some (.int p))], [("pool", c, .list [.list (cells.map .int), .int ((p : Int) + 1)])]⟩ (.Subscript (.Name "pool" q) (.Constant (.int 0) k r) r') (.list (cells.map .int)) :=
    Ex.itemL ExC.own1 Ex.num (by decide) (by rfl) (by decide) (by intro _ _; rfl)
  have hlen : (cells.map Dt.int).length ≤ sizeLine := by simp; omega
  by_cases hlt : p < cells.length
  · refine Sx.ifRetW ((Tx.cmp (Ex.name m1).c (Ex.len (ctx.gl (by decide +kernel)) inner hlen).c Cp.lt (by rfl)).cast (by simp; omega)) ?_
    refine (Ex.mod (Ex.abs (ctx.gl (by decide +kernel)) (Ex.itemL inner.c (Ex.name m1) (Int.natCast_nonneg _) (by rw [Int.toNat_natCast]; exact getI hlt) (by omega) (by intro _ _; rfl))) (Ex.name m0) hmi).cast ?_
    unfold drawV
    rw [if_pos hlt, Int.fmod_eq_emod_of_nonneg _ (Int.natCast_nonneg _)]
    rfl
  · refine Sx.ifF ((Tx.cmp (Ex.name m1).c (Ex.len (ctx.gl (by decide +kernel)) inner hlen).c Cp.lt (by rfl)).cast (by simp; omega)) Sx.nil (Sx.retW ?_)
    have h12 : p % 12 < 12 := Nat.mod_lt _ (by decide)
    have hidx : ((p : Int).fmod 12) = ((p % 12 : Nat) : Int) := by rw [Int.fmod_eq_emod_of_nonneg _ (by decide)]; rfl
    refine (Ex.mod (a := ((drawC.getD (p % 12) 0 : Nat) : Int)) (Ex.itemT (l := drawL) (Ex.tpl ?L (show (12 : Nat) ≤ 1000 by decide))
      ((Ex.mod (Ex.name m1) Ex.num (by decide)).cast (by rw [hidx])) (Int.natCast_nonneg _) ?_ (by omega) (by intro _ _; rfl)) (Ex.name m0) hmi).cast ?_
    · generalize (⟨X, [(("many" : Str), some (Dt.int (many : Int))), ("spot", some (Dt.int (p : Int)))], [(("pool" : Str), c, Dt.list [Dt.list (cells.map Dt.int), Dt.int ((p : Int) + 1)])]⟩ : Ix) = σ
      refine ExL.num ?_
      refine ExL.num ?_
      refine ExL.num ?_
      refine ExL.num ?_
      refine ExL.num ?_
      refine ExL.num ?_
      refine ExL.num ?_
      refine ExL.num ?_
      refine ExL.num ?_
      refine ExL.num ?_
      refine ExL.num ?_
      refine ExL.num ?_
      exact ExL.nil
    · rw [Int.toNat_natCast]
      exact drawL_get _ h12
    · unfold drawV
      rw [if_neg hlt, Int.fmod_eq_emod_of_nonneg _ (Int.natCast_nonneg _)]
      rfl
end Mine
end

section
open PySem PySem.W PyProof.Rows PySem.Calls
set_option autoImplicit false
set_option maxRecDepth 100000
namespace Mine

noncomputable def EmW (F : Fx) (X : Addr → Prop) (Γ : List (Str × Option Dt)) (x : Str) (c : Addr) (emit : Sem Unit) (D : Addr) (d d' e e' : Dt) : Prop := ∀ s, St F ⟨X, Γ, [(x, c, e)]⟩ s → X D → D ≠ c → RdC F.prog F.w X s.heap d (.ref D) →
  wpAny (model F.prog F.w) F.A emit (fun _ s' => (∃ h' tk, s' = { s with heap := h', toks := tk }) ∧ RdC F.prog F.w X s'.heap d' (.ref D) ∧ RdC F.prog F.w X s'.heap e' (.ref c) ∧ ∀ b o, b ≠ D → b ≠ c → s.heap.get? b = some o → s'.heap.get? b = some o) NoE s

section
variable {F : Fx}
theorem comp_coreW {α : Type} {X₀ : Addr → Prop} {Γ : List (Str × Option Dt)} {xp : Str} {c₀ : Addr} {e target : Expr} {ifs : List Expr} {ipos : Pos} {scope : Scope} {emit : Addr → Env → Sem Unit} {newAcc : Sem Value} {accO : Obj} {s₂ : Shared} {I : Addr} {fp wr : List Addr} {items : List Dt} {P Md : Nat → Value → Heap → Prop} {Sti : Nat → Heap → Prop}
    {RR : Value → Addr → Result → Shared → Prop} (xs : List α) (φ : α → Dt) (ac dp : List α → Dt) (p : α → Bool) (Γ₀ : List (Str × Option Dt))
    (hturn : ∀ it D env, compTurn e 0 it (.ref D) env = (do
      standAt ipos
      match ← pyNext it with
      | none => pure (.done .next)
      | some v =>
        letOwnedTupleGo target it v
        assign target env v
        let mut ok := true
        for c in ifs do
          if ok then ok ← isTrue c env (eval c env)
        if ok then
          emit D env
        again (.compLoop e 0 it (.ref D) env)))
    (hden : ∀ it acc env, denote table (.compLoop e 0 it acc env) = (compTurn e 0 it acc env).onRaise (fun x => do noteFrame x env; theTreesLotGoes x))
    (hq : ∀ it acc env, (Code.compLoop e 0 it acc env).quiet = true) (hun : ∀ A it acc env, Around.under A (.compLoop e 0 it acc env) = A)
    (hstart : ∀ (it acc : Value) (env : Env) (R : Result → Shared → Prop) (s : Shared), codeAny (model F.prog F.w) F.A (.compLoop e 0 it acc env) R s →
      wpAny (model F.prog F.w) F.A (pyIter it) (fun it' s' => codeAny (model F.prog F.w) F.A (.compLoop e 0 it' acc env) R s') NoE s → codeAny (model F.prog F.w) F.A (.compStart e 0 it acc env) R s)
    (hnew : ∀ (s : Shared) (Q : Value → Shared → Prop), Q (.ref s.heap.objs.size) { s with heap := s.heap.push accO } → wpAny (model F.prog F.w) F.A newAcc Q NoE s)
    (hfreed : accO.isFreed = false) (hac0 : ∀ (h : Heap) (X : Addr → Prop), 2 < h.objs.size → RdC F.prog F.w X (h.push accO) (ac []) (.ref h.objs.size))
    (hacC : ∀ pre, IsCon (ac pre))
    (hdp : ∀ pre, IsCon (dp pre)) (hfree : (xp, NameKind.free) ∈ scope.names ∧ scope.names.lookup xp = some .free)
    (hφ : items = xs.map φ) (S₂ : St F ⟨X₀, Γ, [(xp, c₀, dp [])]⟩ s₂) (W : Wk F.prog F.w F.A target X₀ s₂.heap I fp wr items P Md Sti) (ok : CompOk F scope)
    (hwX : ∀ b ∈ wr, ¬ X₀ b) (hw0 : ∀ b ∈ wr, ∀ o, ¬ F.W b → F.s₀.heap.get? b ≠ some o) (hwb : ∀ b ∈ wr, F.base.get? b = none)
    (hsz : 2 < s₂.heap.objs.size) (hs0 : F.s₀.heap.objs.size ≤ s₂.heap.objs.size)
    (hnd : (Γ₀.map (·.1)).Nodup) (hΓ : ∀ y d, (y, some d) ∈ Γ₀ → (y, some d) ∈ Γ ∧ (y, NameKind.free) ∈ scope.names ∧ scope.names.lookup y = some .free)
    (hel : ∀ pre x post, xs = pre ++ x :: post → ∀ C X D, InComp (cF F scope C) scope.names → ∃ Γ₁, TgL (cF F scope C) [] target (φ x) Γ₀ Γ₁ ∧ TsOk (cF F scope C) ⟨X, Γ₁, []⟩ ifs (p x) ∧
      (p x = true → EmW (cF F scope C) X Γ₁ xp c₀ (emit D (cF F scope C).env) D (ac pre) (ac (pre ++ [x])) (dp pre) (dp (pre ++ [x]))) ∧ (p x = false → ac (pre ++ [x]) = ac pre ∧ dp (pre ++ [x]) = dp pre))
    (hRR : ∀ D C h tk, St F ⟨fun a => X₀ a ∨ a = C ∨ a = D, Γ, [(xp, c₀, dp xs)]⟩ { s₂ with heap := h, toks := tk } → RdC F.prog F.w (fun a => X₀ a ∨ a = C ∨ a = D) h (ac xs) (.ref D) → (∃ m, h.Ns C m) → s₂.heap.objs.size ≤ D → s₂.heap.objs.size ≤ C → C ≠ D →
      (∀ b o, b ∉ wr → b ≠ c₀ → s₂.heap.get? b = some o → h.get? b = some o) → RR (.ref D) C (.ok .next) { s₂ with heap := h, toks := tk }) :
    wpAny (model F.prog F.w) F.A newAcc (fun acc s₃ => wpAny (model F.prog F.w) F.A (newFunctionEnv scope F.env.globals (clOf F.env scope.names []) [] F.env.qual none .none (some F.env)) (fun cenv s₄ =>
      codeAny (model F.prog F.w) F.A (.compStart e 0 (.ref I) acc { cenv with scope := relabel scope F.env }) (RR acc cenv.locals) s₄) NoE s₃) NoE s₂ := by
  refine hnew _ _ (wpAny_newFunctionEnv ok.nocell (by intro y hy; simp at hy) (fun h₁ hns₁ hsb₁ => ?_) ok.kind)
  dsimp only at hns₁ hsb₁ ⊢
  have hsizeH : (s₂.heap.push accO).objs.size = s₂.heap.objs.size + 1 := Heap.size_push ..
  generalize hD : s₂.heap.objs.size = D at *
  generalize hCe : (s₂.heap.push accO).objs.size = C at *
  subst hCe
  have hDC : D ≠ (s₂.heap.push accO).objs.size := by rw [hsizeH]; exact Nat.ne_of_lt (Nat.lt_succ_self _)
  generalize hCe : (s₂.heap.push accO).objs.size = C at *
  have hDlt : D < C := by rw [hsizeH]; exact Nat.lt_succ_self _
  have lt₂ : ∀ {b o}, s₂.heap.get? b = some o → b < D := fun e => by rw [← hD]; exact Heap.lt_size e
  have old : Keep s₂.heap h₁ := fun b o e => hsb₁.extBut b o (Nat.ne_of_lt (Nat.lt_trans (lt₂ e) hDlt)) (Heap.get?_push_of_some _ (Heap.get?_push_of_some _ e))
  have accAt : h₁.get? D = some accO := hsb₁.extBut _ _ hDC (Heap.get?_push_of_some _ (by rw [← hD]; exact Heap.get?_push_size _ hfreed))
  have wlt : ∀ b ∈ wr, b < D := fun b hb => by obtain ⟨o, e, _⟩ := W.obj 0 _ W.start b hb; exact lt₂ e
  have fplt : ∀ b ∈ fp, b < D := fun b hb => by
    rcases W.fpx b hb with q | ⟨o, e, _⟩
    · exact wlt b q
    · exact lt₂ e
  -- the frame around, with the two new ones
  have S₁ : St F ⟨fun a => X₀ a ∨ a = C ∨ a = D, Γ, [(xp, c₀, dp [])]⟩ { s₂ with heap := h₁, toks := s₂.toks + ([] : List (Str × Value)).length } := by
    refine St.more (X := X₀) S₂ (fun a h => .inl h) (fun a h => ?_) ⟨h₁, _, rfl, old⟩ (fun a h => ?_)
    · rcases h with h | rfl | rfl
      · exact .inl h
      · refine .inr ?_
        cases e : s₂.heap.get? a with
        | none => rfl
        | some o => exact absurd (lt₂ e) (Nat.not_lt.mpr (Nat.le_of_lt hDlt))
      · refine .inr ?_
        cases e : s₂.heap.get? a with
        | none => rfl
        | some o => exact absurd (lt₂ e) (Nat.lt_irrefl _)
    · rcases h with h | rfl | rfl
      · obtain ⟨o, e⟩ := S₂.xin a h; exact ⟨o, old _ _ e⟩
      · obtain ⟨o, _, _, e, _⟩ := hns₁; exact ⟨o, e⟩
      · exact ⟨_, accAt⟩
  have ac0 : RdC F.prog F.w (fun a => X₀ a ∨ a = C ∨ a = D) h₁ (ac []) (.ref D) := by
    have r := hac0 s₂.heap (fun a => X₀ a ∨ a = C ∨ a = D) (by rw [hD]; exact hsz)
    rw [hD] at r
    refine r.keep fun b o e => ?_
    by_cases hb : b = D
    · subst hb
      rw [accAt, ← e, ← hD]
      exact (Heap.get?_push_size _ hfreed).symm
    · refine hsb₁.extBut b o ?_ (Heap.get?_push_of_some _ e)
      have := Heap.lt_size e
      rw [hCe] at this
      exact Nat.ne_of_lt this
  have subX : Sub s₂.heap X₀ (fun a => X₀ a ∨ a = C ∨ a = D) := fun a h => by
    have none : ∀ b, D ≤ b → s₂.heap.get? b = none := fun b hb => by
      cases e : s₂.heap.get? b with
      | none => rfl
      | some o => exact absurd (lt₂ e) (Nat.not_lt.mpr hb)
    rcases h with h | rfl | rfl
    · exact .inl h
    · exact .inr (none _ (Nat.le_of_lt hDlt))
    · exact .inr (none _ (Nat.le_refl _))
  obtain ⟨H₀, rc₀, hX₀, _, hl₀, hcl₀⟩ := S₂.own _ (List.mem_singleton.mpr rfl)
  obtain ⟨oc₀, hoc₀, ntc₀⟩ := rc₀.notT (hdp [])
  dsimp only at H₀ rc₀ hX₀ hl₀ hcl₀ hoc₀
  have c0w : c₀ ∉ wr := fun hm => hwX _ hm hX₀
  have c0lt : c₀ < D := lt₂ hoc₀
  have c0fp : c₀ ∉ fp := fun hm => by
    rcases W.fpx c₀ hm with q | ⟨o, e, q⟩
    · exact c0w q
    · rw [hoc₀] at e; cases e
      exact q.elim (fun z => z hX₀) ntc₀
  have loop : codeAny (model F.prog F.w) F.A (.compLoop e 0 (.ref I) (.ref D) (compEnvC scope (clOf F.env scope.names []) C F.env)) (RR (.ref D) C) { s₂ with heap := h₁, toks := s₂.toks + ([] : List (Str × Value)).length } := by
    refine compLoopG (fun n s' => ∃ i, n = items.length + 1 - i ∧ i ≤ items.length ∧ Sti i s'.heap ∧ St F ⟨fun a => X₀ a ∨ a = C ∨ a = D, Γ, [(xp, c₀, dp (xs.take i))]⟩ s' ∧ (∃ h tk, s' = { s₂ with heap := h, toks := tk }) ∧ (∃ m, s'.heap.Ns C m) ∧
        RdC F.prog F.w (fun a => X₀ a ∨ a = C ∨ a = D) s'.heap (ac (xs.take i)) (.ref D) ∧ ∀ b o, b ∉ wr → b ≠ c₀ → s₂.heap.get? b = some o → s'.heap.get? b = some o)
      (hturn _ _ _) (hden _ _ _) (hq _ _ _) (hun _ _ _ _) ?_ (items.length + 1) ⟨0, rfl, Nat.zero_le _, ?_, S₁, ⟨_, _, rfl⟩, ⟨_, hns₁⟩, ac0, fun b o _ _ e => old b o e⟩
    · rintro n s' ⟨i, rfl, hi, hst, S', ⟨hh, tkk, rfl⟩, hC', hac, hk'⟩
      have krOf : ∀ h : Heap, (∀ b o, b ∉ wr → b ≠ c₀ → s₂.heap.get? b = some o → h.get? b = some o) → KeepR (fun a => X₀ a ∨ a = C ∨ a = D) s₂.heap h := fun h hk b o e q => hk b o (fun hm => by
        obtain ⟨o', e', nr⟩ := W.obj 0 _ W.start b hm
        rw [e] at e'; cases e'
        exact nr.not q) (fun hb => by
        subst hb
        rw [hoc₀] at e; cases e
        exact q.elim ntc₀ fun z => z.1 (.inl hX₀)) e
      have wX : ∀ b ∈ wr, ¬ (X₀ b ∨ b = C ∨ b = D) := fun b hb q => by
        have := wlt b hb
        rcases q with q | q | q
        · exact hwX b hb q
        · rw [q] at this; exact Nat.lt_irrefl _ (Nat.lt_trans this hDlt)
        · rw [q] at this; exact Nat.lt_irrefl _ this
      have Cw : C ∉ wr := fun hm => wX C hm (.inr (.inl rfl))
      have Dw : D ∉ wr := fun hm => wX D hm (.inr (.inr rfl))
      by_cases hlt : i < items.length
      · have hd : items[i]? = some items[i] := List.getElem?_eq_getElem hlt
        refine W.turns.item i _ _ _ hlt hst fun v h₂ tk₂ hMd hk₂ => ?_
        refine W.turns.go i v _ _ _ hMd fun h₃ hP hst₃ hk₃ => ?_
        have hk23 : ∀ b o, b ∉ wr → hh.get? b = some o → h₃.get? b = some o := fun b o hb e => hk₃ b o hb (hk₂ b o hb e)
        have S₃ : St F ⟨fun a => X₀ a ∨ a = C ∨ a = D, Γ, [(xp, c₀, dp (xs.take i))]⟩ { s₂ with heap := h₃, toks := tk₂ } := S'.offI wr hk23 (W.obj i _ hst) wX hw0 hwb
        have hk3 : ∀ b o, b ∉ wr → b ≠ c₀ → s₂.heap.get? b = some o → h₃.get? b = some o := fun b o hb hb' e => hk23 b o hb (hk' b o hb hb' e)
        have rv₀ := W.read (fun a => X₀ a ∨ a = C ∨ a = D) subX i v h₃ _ hd hP (krOf h₃ hk3)
        obtain ⟨x, hx, hxd⟩ : ∃ x, xs[i]? = some x ∧ φ x = items[i] := by
          subst hφ
          have hi' : i < xs.length := by simpa using hlt
          exact ⟨xs[i], List.getElem?_eq_getElem hi', by simp⟩
        obtain ⟨e1, post, e2⟩ := take_succ' hx
        obtain ⟨Γ₁, htg, hts, hem, hno⟩ := hel (xs.take i) x post e2 C (fun a => X₀ a ∨ a = C ∨ a = D) D (inComp F scope C)
        obtain ⟨mC, hCn⟩ := hC'
        have hCn₃ : h₃.Ns C mC := hCn.at' fun o e => hk23 C o Cw e
        have hac₃ : RdC F.prog F.w (fun a => X₀ a ∨ a = C ∨ a = D) h₃ (ac (xs.take i)) (.ref D) := by
          refine hac.keepR (fun b o e q => ?_) fun o e => hk23 D o Dw e
          refine hk23 b o (fun hm => ?_) e
          obtain ⟨o', e', nr⟩ := W.obj i _ hst b hm
          have e'' : hh.get? b = some o' := e'
          rw [e] at e''; cases e''
          exact nr.not q
        have hcC : ∀ x c, F.env.cells.lookup x = some c → c ≠ C := fun x c q => by
          obtain ⟨⟨_, o, ho, _⟩, _⟩ := S₂.cells x c q
          exact Nat.ne_of_lt (Nat.lt_trans (lt₂ ho) hDlt)
        have hcD : ∀ x c, F.env.cells.lookup x = some c → c ≠ D := fun x c q => by
          obtain ⟨⟨_, o, ho, _⟩, _⟩ := S₂.cells x c q
          exact Nat.ne_of_lt (lt₂ ho)
        have Sc : St (cF F scope C) ⟨fun a => X₀ a ∨ a = C ∨ a = D, Γ₀, []⟩ { s₂ with heap := h₃, toks := tk₂ } :=
          St.comp (σ := ⟨X₀, Γ, [(xp, c₀, dp (xs.take i))]⟩) S₃ ok ⟨mC, hCn₃⟩ (.inr (.inl rfl)) (Nat.le_trans hs0 (Nat.le_of_lt hDlt)) hcC hnd hΓ
        rw [← hxd] at rv₀
        refine wpAny_mono (htg { s₂ with heap := h₃, toks := tk₂ } _ v Sc rv₀) (fun _ s₄ ⟨S₄, f₄⟩ => ?_) fun _ _ e => e
        refine wpAny_mono (hts s₄ S₄) (fun okb s₅ ⟨k5, eb⟩ => ?_) fun _ _ e => e
        have f₅ : ∀ b o, b ≠ C → h₃.get? b = some o → s₅.heap.get? b = some o := fun b o hb e => k5.k b o (f₄ b o hb e)
        have hac₅ : RdC F.prog F.w (fun a => X₀ a ∨ a = C ∨ a = D) s₅.heap (ac (xs.take i)) (.ref D) := by
          refine hac₃.keepR (fun b o e q => f₅ b o (fun hb => ?_) e) fun o e => f₅ D o hDC e
          subst hb
          rcases q with q | q
          · exact notT_ns hCn₃ o e q
          · exact q.1 (.inr (.inl rfl))
        have S₅ := S₄.keeps k5
        have nsC₅ : ∃ m, s₅.heap.Ns C m := S₅.loc
        have hDc : D ≠ c₀ := Nat.ne_of_gt c0lt
        have hCc : C ≠ c₀ := Nat.ne_of_gt (Nat.lt_trans c0lt hDlt)
        obtain ⟨H₃, rc₃, _⟩ := S₃.own _ (List.mem_singleton.mpr rfl)
        dsimp only at H₃ rc₃
        have rc₅ : RdC F.prog F.w (fun a => X₀ a ∨ a = C ∨ a = D) s₅.heap (dp (xs.take i)) (.ref c₀) := by
          refine rc₃.keepR (fun b o e q => f₅ b o (fun hb => ?_) e) fun o e => f₅ c₀ o (Ne.symm hCc) e
          subst hb
          rcases q with q | q
          · exact notT_ns hCn₃ o e q
          · exact q.1 (.inr (.inl rfl))
        have S₅' : St (cF F scope C) ⟨fun a => X₀ a ∨ a = C ∨ a = D, Γ₁, [(xp, c₀, dp (xs.take i))]⟩ s₅ := by
          refine { S₅ with own := fun q hq => ?_ }
          obtain rfl := List.mem_singleton.mp hq
          have hf' : ∀ p ∈ scope.names, p.2 = .free → (F.env.cells.lookup p.1).isSome = true := fun p hp hq => (ok.free p hp hq).2
          have hk := (ok.free _ hfree.1 rfl).1
          obtain ⟨_, _, hX, hw, _, hcl⟩ := S₃.own _ (List.mem_singleton.mpr rfl)
          refine ⟨⟨H₃.1, ?_⟩, rc₅, hX, hw, Ne.symm hCc, fun x c e => hcl x c ((clOf_lookup _ _ _ _ hf' e).elim (fun q => by cases q) id)⟩
          rcases H₃.2 with ⟨a, _⟩ | ⟨_, cc, hc, hv⟩
          · rw [hk] at a; cases a
          · refine .inr ⟨.inl (relabel_free S₃.kind hfree.2 hk), cc, (clOf_some _ _ _ hf' (.inl hfree.1)).trans hc, ?_⟩
            obtain ⟨o, ho, hd'⟩ := hv
            exact ⟨o, f₅ cc o (hcC _ _ hc) ho, hd'⟩
        -- what is left to show of the turn's end, at any state that changes D and c₀ alone
        have finish : ∀ s₆ : Shared, (∃ h' tk', s₆ = { s₅ with heap := h', toks := tk' }) → RdC F.prog F.w (fun a => X₀ a ∨ a = C ∨ a = D) s₆.heap (ac (xs.take (i + 1))) (.ref D) → RdC F.prog F.w (fun a => X₀ a ∨ a = C ∨ a = D) s₆.heap (dp (xs.take (i + 1))) (.ref c₀) →
            (∀ b o, b ≠ D → b ≠ c₀ → s₅.heap.get? b = some o → s₆.heap.get? b = some o) →
            ∃ m, m < items.length + 1 - i ∧ ∃ i', m = items.length + 1 - i' ∧ i' ≤ items.length ∧ Sti i' s₆.heap ∧ St F ⟨fun a => X₀ a ∨ a = C ∨ a = D, Γ, [(xp, c₀, dp (xs.take i'))]⟩ s₆ ∧ (∃ h tk, s₆ = { s₂ with heap := h, toks := tk }) ∧ (∃ m, s₆.heap.Ns C m) ∧
              RdC F.prog F.w (fun a => X₀ a ∨ a = C ∨ a = D) s₆.heap (ac (xs.take i')) (.ref D) ∧ ∀ b o, b ∉ wr → b ≠ c₀ → s₂.heap.get? b = some o → s₆.heap.get? b = some o := by
          rintro s₆ ⟨h₆, tk₆, rfl⟩ hac₆ hdp₆ f₆
          obtain ⟨h₀', t₀', e5⟩ := S₅.sh
          obtain ⟨h₀, t₀, e2'⟩ := S₂.sh
          have e5' : s₅ = { F.s₀ with heap := h₀', toks := t₀' } := e5
          have shape : ({ s₅ with heap := h₆, toks := tk₆ } : Shared) = { s₂ with heap := h₆, toks := tk₆ } := by rw [e5', e2']
          have f36 : ∀ b o, b ∉ [C, D, c₀] → h₃.get? b = some o → h₆.get? b = some o := fun b o hb e => f₆ b o (fun q => hb (by simp [q])) (fun q => hb (by simp [q])) (f₅ b o (fun q => hb (by simp [q])) e)
          have small : ∀ b, b < D → b ≠ c₀ → b ∉ [C, D, c₀] := fun b hb hb' hm => by
            rcases List.mem_cons.mp hm with q | hm
            · rw [q] at hb; exact Nat.lt_irrefl _ (Nat.lt_trans hb hDlt)
            · rcases List.mem_cons.mp hm with q | hm
              · rw [q] at hb; exact Nat.lt_irrefl _ hb
              · exact hb' (List.mem_singleton.mp hm)
          have nsC₆ : ∃ m, h₆.Ns C m := by
            obtain ⟨m, hm⟩ := nsC₅
            exact ⟨m, hm.at' fun o e => f₆ C o (Ne.symm hDC) hCc e⟩
          have inCD : ∀ b ∈ [C, D, c₀], b = C ∨ b = D ∨ b = c₀ := fun b hb => by simpa using hb
          obtain ⟨oD, hoD, _⟩ := hac₆.notT (hacC _)
          obtain ⟨oc, hoc, _⟩ := hdp₆.notT (hdp _)
          obtain ⟨_, _, hXc, hwc, hlc, hclc⟩ := S₃.own _ (List.mem_singleton.mpr rfl)
          dsimp only at hXc hwc hlc hclc
          refine ⟨items.length + 1 - (i + 1), by omega, i + 1, rfl, hlt, W.turns.frame _ _ _ hst₃ (fun b hb o e => f36 b o (small b (fplt b hb) (fun q => c0fp (q ▸ hb))) e), ?_, ⟨h₆, tk₆, shape⟩, nsC₆, hac₆, fun b o hb hb' e => f36 b o (small b (lt₂ e) hb') (hk3 b o hb hb' e)⟩
          rw [shape]
          have S₃e : St F ⟨fun a => X₀ a ∨ a = C ∨ a = D, Γ, []⟩ { s₂ with heap := h₃, toks := tk₂ } := { S₃ with own := fun p hp => by cases hp }
          have S₆e : St F ⟨fun a => X₀ a ∨ a = C ∨ a = D, Γ, []⟩ { s₂ with heap := h₆, toks := tk₆ } := by
            refine St.off S₃e [C, D, c₀] f36 (fun b hb => ?_) (fun b hb q => ?_) (fun b hb x c q z => ?_) (fun b hb q hq' z => by cases hq') (fun b hb _ => ?_) (fun b hb o hw e => ?_) fun b hb => ?_
            · rcases inCD b hb with rfl | rfl | rfl
              · obtain ⟨o, es, ep, e, r⟩ := hCn₃
                exact ⟨o, e, fun q => q.elim (notT_ns ⟨o, es, ep, e, r⟩ o e) fun q => q.1 (.inr (.inl rfl))⟩
              · obtain ⟨o, e, nt⟩ := hac₃.notT (hacC _)
                exact ⟨o, e, fun q => q.elim nt fun q => q.1 (.inr (.inr rfl))⟩
              · obtain ⟨o, e, nt⟩ := rc₃.notT (hdp _)
                exact ⟨o, e, fun q => q.elim nt fun q => q.1 (.inl hX₀)⟩
            · obtain ⟨m, hm⟩ := S₂.loc
              obtain ⟨o, _, _, e, _⟩ := hm
              exact small _ (lt₂ e) (fun z => hl₀ z.symm) (q ▸ hb)
            · obtain ⟨⟨_, o, e, _⟩, _⟩ := S₂.cells x c q
              exact small _ (lt₂ e) (fun y => hcl₀ x c q y) (z ▸ hb)
            · rcases inCD b hb with rfl | rfl | rfl
              · obtain ⟨m, o, _, _, e, _⟩ := nsC₆; exact ⟨o, e⟩
              · exact ⟨oD, hoD⟩
              · exact ⟨oc, hoc⟩
            · rcases inCD b hb with rfl | rfl | rfl
              · have := S₂.keep _ o hw e
                exact Nat.lt_irrefl _ (Nat.lt_trans hDlt (lt₂ this))
              · have := S₂.keep _ o hw e
                exact Nat.lt_irrefl _ (lt₂ this)
              · rcases hwc.1 with z | z
                · rw [z] at e; cases e
                · exact hw z
            · rcases inCD b hb with rfl | rfl | rfl
              · cases e : F.base.get? b with
                | none => rfl
                | some o => exact absurd (lt₂ (S₂.base b o e)) (Nat.not_lt.mpr (Nat.le_of_lt hDlt))
              · cases e : F.base.get? b with
                | none => rfl
                | some o => exact absurd (lt₂ (S₂.base b o e)) (Nat.lt_irrefl _)
              · exact hwc.2
          refine { S₆e with own := fun q hq => ?_ }
          obtain rfl := List.mem_singleton.mp hq
          refine ⟨⟨H₃.1, ?_⟩, hdp₆, hXc, hwc, hlc, hclc⟩
          rcases H₃.2 with ⟨a, m, hm, e⟩ | ⟨a, cc, hc, o, ho, hd'⟩
          · refine .inl ⟨a, m, hm.at' fun o e => ?_, e⟩
            refine f36 _ o ?_ e
            obtain ⟨m, hm⟩ := S₂.loc
            obtain ⟨o, _, _, e, _⟩ := hm
            exact small _ (lt₂ e) (fun z => hl₀ z.symm)
          · refine .inr ⟨a, cc, hc, o, f36 _ o ?_ ho, hd'⟩
            obtain ⟨⟨_, o, e, _⟩, _⟩ := S₂.cells _ cc hc
            exact small _ (lt₂ e) (fun y => hcl₀ _ cc hc y)
        subst eb
        cases hp : p x with
        | true =>
          rw [if_pos rfl]
          refine wpAny_mono (hem hp s₅ S₅' (.inr (.inr rfl)) hDc hac₅) (fun _ s₆ ⟨q1, q2, q3, q4⟩ => finish s₆ q1 (by rw [e1]; exact q2) (by rw [e1]; exact q3) q4) fun _ _ e => e
        | false =>
          rw [if_neg Bool.false_ne_true]
          exact finish s₅ ⟨s₅.heap, s₅.toks, rfl⟩ (by rw [e1, (hno hp).1]; exact hac₅) (by rw [e1, (hno hp).2]; exact rc₅) fun _ _ _ _ e => e
      · have hie : i = items.length := Nat.le_antisymm hi (Nat.not_lt.mp hlt)
        refine W.turns.done _ _ _ (hie ▸ hst) fun h₃ tk₃ hk₃ => ?_
        have hk3 : ∀ b o, b ∉ wr → b ≠ c₀ → s₂.heap.get? b = some o → h₃.get? b = some o := fun b o hb hb' e => hk₃ b o hb (hk' b o hb hb' e)
        obtain ⟨mC, hCn⟩ := hC'
        have hlen : xs.length ≤ i := by rw [hie, hφ]; simp
        rw [List.take_of_length_le hlen] at hac S'
        refine hRR D C h₃ tk₃ (S'.offI wr hk₃ (W.obj i _ hst) wX hw0 hwb) (hac.keepR (fun b o e q => ?_) fun o e => hk₃ D o Dw e) ⟨mC, hCn.at' fun o e => hk₃ C o Cw e⟩ (Nat.le_refl _) (Nat.le_of_lt hDlt) (Ne.symm hDC) hk3
        refine hk₃ b o (fun hm => ?_) e
        obtain ⟨o', e', nr⟩ := W.obj i _ hst b hm
        have e'' : hh.get? b = some o' := e'
        rw [e] at e''; cases e''
        exact nr.not q
    · exact W.turns.frame _ _ _ W.start fun b _ o e => old b o e
  exact hstart _ _ _ _ _ loop (W.self 0 _ _ (W.turns.frame _ _ _ W.start fun b _ o e => old b o e) loop)

end
end Mine
end

section
open PySem PySem.W PyProof.Rows PySem.Calls
set_option autoImplicit false
set_option maxRecDepth 100000
namespace Mine

section
variable {F : Fx}
theorem comp_runW {α : Type} {X₀ : Addr → Prop} {Γ : List (Str × Option Dt)} {xp : Str} {c₀ : Addr} {s : Shared} {e target iter : Expr} {ifs : List Expr} {ipos pos : Pos} {scope : Scope} {emit : Addr → Env → Sem Unit} {newAcc : Sem Value} {accO : Obj}
    {use : Option (Value → Sem Unit)} {Q : Value → Shared → Prop} (xs : List α) (φ : α → Dt) (ac dp : List α → Dt) (p : α → Bool) (Γ₀ : List (Str × Option Dt))
    (hcl : clausesOf e = [⟨target, iter, ifs, 0⟩])
    (hturn : ∀ it D env, compTurn e 0 it (.ref D) env = (do
      standAt ipos
      match ← pyNext it with
      | none => pure (.done .next)
      | some v =>
        letOwnedTupleGo target it v
        assign target env v
        let mut ok := true
        for c in ifs do
          if ok then ok ← isTrue c env (eval c env)
        if ok then
          emit D env
        again (.compLoop e 0 it (.ref D) env)))
    (hden : ∀ it acc env, denote table (.compLoop e 0 it acc env) = (compTurn e 0 it acc env).onRaise (fun x => do noteFrame x env; theTreesLotGoes x))
    (hq : ∀ it acc env, (Code.compLoop e 0 it acc env).quiet = true) (hun : ∀ A it acc env, Around.under A (.compLoop e 0 it acc env) = A)
    (hstart : ∀ (it acc : Value) (env : Env) (R : Result → Shared → Prop) (s : Shared), codeAny (model F.prog F.w) F.A (.compLoop e 0 it acc env) R s →
      wpAny (model F.prog F.w) F.A (pyIter it) (fun it' s' => codeAny (model F.prog F.w) F.A (.compLoop e 0 it' acc env) R s') NoE s → codeAny (model F.prog F.w) F.A (.compStart e 0 it acc env) R s)
    (hnew : ∀ (s : Shared) (Q : Value → Shared → Prop), Q (.ref s.heap.objs.size) { s with heap := s.heap.push accO } → wpAny (model F.prog F.w) F.A newAcc Q NoE s)
    (hfreed : accO.isFreed = false) (hac0 : ∀ (h : Heap) (X : Addr → Prop), 2 < h.objs.size → RdC F.prog F.w X (h.push accO) (ac []) (.ref h.objs.size))
    (hacC : ∀ pre, IsCon (ac pre))
    (hdp : ∀ pre, IsCon (dp pre)) (hfree : (xp, NameKind.free) ∈ scope.names ∧ scope.names.lookup xp = some .free) (S : St F ⟨X₀, Γ, [(xp, c₀, dp [])]⟩ s) (hsrc : Src F ⟨X₀, Γ, [(xp, c₀, dp [])]⟩ target iter (xs.map φ)) (ok : CompOk F scope)
    (hnd : (Γ₀.map (·.1)).Nodup) (hΓ : ∀ y d, (y, some d) ∈ Γ₀ → (y, some d) ∈ Γ ∧ (y, NameKind.free) ∈ scope.names ∧ scope.names.lookup y = some .free)
    (hel : ∀ pre x post, xs = pre ++ x :: post → ∀ C X D, InComp (cF F scope C) scope.names → ∃ Γ₁, TgL (cF F scope C) [] target (φ x) Γ₀ Γ₁ ∧ TsOk (cF F scope C) ⟨X, Γ₁, []⟩ ifs (p x) ∧
      (p x = true → EmW (cF F scope C) X Γ₁ xp c₀ (emit D (cF F scope C).env) D (ac pre) (ac (pre ++ [x])) (dp pre) (dp (pre ++ [x]))) ∧ (p x = false → ac (pre ++ [x]) = ac pre ∧ dp (pre ++ [x]) = dp pre))
    (hQ : ∀ D C s', s.heap.get? D = none → s.heap.get? C = none → C ≠ D → Tch c₀ s s' → St F ⟨fun a => X₀ a ∨ a = C ∨ a = D, Γ, [(xp, c₀, dp xs)]⟩ s' → RdC F.prog F.w (fun a => X₀ a ∨ a = C ∨ a = D) s'.heap (ac xs) (.ref D) → (∃ m, s'.heap.Ns C m) →
      compPost (model F.prog F.w) F.A NoE use Q (.ref D) C (.ok .next) s')
    (hfs : ∀ x env, foldedSetIterable iter env x = pure x) :
    wpAny (model F.prog F.w) F.A (comprehension e scope F.env pos newAcc false (eval iter F.env) use) Q NoE s := by
  have hf : ∀ p ∈ scope.names, p.2 = .free → (F.env.cells.lookup p.1).isSome = true := fun p hp hq => (ok.free p hp hq).2
  refine wpAny_comprehension_free hcl (fun x => hfs x F.env) (closure_ok scope hf) ok.kind ok.locals ?_
  refine wpAny_mono (hsrc s S) (fun x s₁ h₁ => wpAny_mono h₁ (fun it s₂ h₂ => ?_) fun _ _ e => e.elim) fun _ _ e => e.elim
  obtain ⟨k0, I, fp, wr, P, Md, Sti, rfl, hfr, W⟩ := h₂
  have S₂ := S.keeps k0
  have hwX : ∀ b ∈ wr, ¬ X₀ b := fun b hb q => by
    obtain ⟨o, e⟩ := S.xin b q
    rw [hfr b hb] at e; cases e
  have hw0 : ∀ b ∈ wr, ∀ o, ¬ F.W b → F.s₀.heap.get? b ≠ some o := fun b hb o hw e => by
    have := S.keep b o hw e
    rw [hfr b hb] at this; cases this
  have hwb : ∀ b ∈ wr, F.base.get? b = none := fun b hb => by
    cases e : F.base.get? b with
    | none => rfl
    | some o => have := S.base b o e; rw [hfr b hb] at this; cases this
  refine wpAny_mono (comp_coreW (RR := compPost (model F.prog F.w) F.A NoE use Q) xs φ ac dp p Γ₀ hturn hden hq hun hstart hnew hfreed hac0 hacC hdp hfree rfl S₂ W ok hwX hw0 hwb S₂.size2 S₂.le hnd hΓ hel fun D C h tk S₃ r hC hD hC' hne hk => ?_)
    (fun _ _ q => wpAny_mono q (fun _ _ z => z) fun _ _ e => e.elim) fun _ _ e => e.elim
  have fresh : ∀ b, s₂.heap.objs.size ≤ b → s.heap.get? b = none := fun b hb => by
    cases e : s.heap.get? b with
    | none => rfl
    | some o => exact absurd (Heap.lt_size (k0.k _ _ e)) (Nat.not_lt.mpr hb)
  refine hQ D C _ (fresh D hD) (fresh C hC') hne ?_ S₃ r hC
  obtain ⟨h', t', rfl, k⟩ := k0
  exact ⟨h, tk, rfl, fun b o hb e => hk b o (fun hm => by rw [hfr b hm] at e; cases e) hb (k b o e)⟩
theorem em_listW {X : Addr → Prop} {Γ : List (Str × Option Dt)} {x : Str} {c : Addr} {elt : Expr} {D : Addr} {l : List Dt} {d e e' : Dt} (h : ExW F X Γ x c e elt d e') (hc : IsCon e) (hc' : IsCon e') (hl : l.length ≤ sizeLine) :
    EmW F X Γ x c (do let _ ← call (.builtin "list.append") [.ref D, ← eval elt F.env]) D (.plist l) (.plist (l ++ [d])) e e' := fun s S hX hDc r => by
  refine wpAny_bind (wpAny_mono (h s S) (fun v s₁ ⟨t, rc, r1⟩ => ?_) fun _ _ e => e.elim)
  obtain ⟨S₁, k1⟩ := S.touch hc hc' t rc
  obtain ⟨h₁, t₁, rfl, kt⟩ := t
  obtain ⟨a, items, ea, ht, hr⟩ := id (r.keepX k1 (fun o e => kt D o hDc e))
  cases ea
  have hlen : items.size ≤ sizeLine := by have := hr.length; simp at this; omega
  obtain ⟨n, ho⟩ := ht
  refine wpAny_bind (append_at (hsz := hlen) ho fun h' hs ho' => wpAny_pure ?_)
  have kr : KeepR X h₁ h' := KeepX.r (keepX_of hs hX fun o e q => by
    rw [show h₁.get? D = _ from ho] at e; cases e
    have := q.1; injection this with z; exact absurd z (by decide))
  refine ⟨⟨h', t₁, rfl⟩, ⟨D, _, rfl, ⟨_, ho'⟩, ?_⟩, rc.keepR kr (fun o e => by rw [hs.2 c (Ne.symm hDc)]; exact e), fun b o hb hb' e => ?_⟩
  · rw [Array.toList_push]
    exact (hr.keepR kr).snoc (r1.keepR kr)
  · rw [hs.2 b hb]; exact kt _ _ hb' e

/-- a name = [draw for …], stored within the comprehension -/
theorem Es.lcW {α : Type} {X₀ : Addr → Prop} {Γ Γ' : List (Str × Option Dt)} {xp : Str} {c₀ : Addr} {x : Str} {px spos : Pos} {elt target iter : Expr} {scope : Scope} {pos : Pos} (xs : List α) (φ : α → Dt) (f : List α → α → Dt) (ac : List α → List Dt) (dp : List α → Dt) (Γ₀ : List (Str × Option Dt)) (ns : List Str) {items : List Dt} (hi : items = xs.map φ)
    (hac0 : ac [] = []) (hac : ∀ pre x, ac (pre ++ [x]) = ac pre ++ [f pre x]) (hacl : ∀ pre, (ac pre).length ≤ pre.length) (hdp : ∀ pre, IsCon (dp pre)) (hfree : (scope.names.lookup xp == some .free) = true) (hxx : (xp == x) = false)
    (hx : (x == ("__debug__" : Str)) = false ∧ F.env.kindOf x = some .local) (hsrc : Src F ⟨X₀, Γ, [(xp, c₀, dp [])]⟩ target iter items) (ok : CompOk F scope) (hns : Γ₀.map (·.1) = ns) (hnd : ns.Nodup) (hΓ : HG Γ₀ Γ scope.names)
    (hel : ∀ pre x post, xs = pre ++ x :: post → ∀ C X, InComp (cF F scope C) scope.names → ∃ Γ₁, TgL (cF F scope C) [] target (φ x) Γ₀ Γ₁ ∧ ExW (cF F scope C) X Γ₁ xp c₀ (dp pre) elt (f pre x) (dp (pre ++ [x])))
    (hset : SetAt x (.list (ac xs)) Γ Γ')
    (hsw : swapsWith (.ListComp elt [⟨target, iter, [], 0⟩] scope pos) (some (.Name x px)) spos.line F.env = pure true)
    (hlen : xs.length ≤ sizeLine) (hfs : ∀ x env, foldedSetIterable iter env x = pure x := by intro _ _; rfl) :
    Es F ⟨X₀, Γ, [(xp, c₀, dp [])]⟩ (.Assign [.Name x px] (.ListComp elt [⟨target, iter, [], 0⟩] scope pos) spos) ⟨X₀, Γ', [(xp, c₀, dp xs)]⟩ := fun s S => by
  subst hi
  have hfree' : (xp, NameKind.free) ∈ scope.names ∧ scope.names.lookup xp = some .free := by
    have h : scope.names.lookup xp = some .free := by simpa using hfree
    exact ⟨mem_of_lookup h, h⟩
  rw [exec_Assign_Name_used _ _ _ _ hsw]
  refine wpAny_bind (wpAny_standAt (wpAny_bind ?_))
  rw [evalThenUse_list]
  obtain ⟨_, _, hX₀c, _⟩ := S.own _ (List.mem_singleton.mpr rfl)
  obtain ⟨o₀, ho₀, nt₀⟩ : ∃ o, s.heap.get? c₀ = some o ∧ ¬ IsT o := by
    obtain ⟨_, rc, _⟩ := S.own _ (List.mem_singleton.mpr rfl)
    exact rc.notT (hdp [])
  refine wpAny_bind (wpAny_mono (comp_runW (use := some (PySem.assign (.Name x px) F.env)) (Q := fun _ s' => St F ⟨X₀, Γ', [(xp, c₀, dp xs)]⟩ s' ∧ KeepX X₀ s.heap s'.heap) (accO := { cls := .type "list", data := .seq #[] }) (ipos := iter.pos) (ifs := []) (emit := fun D env => do let _ ← call (.builtin "list.append") [.ref D, ← eval elt env]) xs φ (fun pre => .plist (ac pre)) dp (fun _ => true) Γ₀ rfl
    (fun it D env => compTurn_list elt target iter [] scope pos it (.ref D) env) (fun _ _ _ => rfl) (fun _ _ _ => rfl) (fun _ _ _ _ => rfl)
    (fun it acc env R s h0 h => codeAny_compStart_list h0 (wpAny_mono h (fun _ _ z => z) fun _ _ e => e.elim)) hnew_list rfl (fun h X _ => by rw [hac0]; exact hac0_list h X) (fun _ => .p) hdp hfree' S hsrc ok (hns ▸ hnd) hΓ ?_ (fun D C s' hD hC hne tp S' r hn => ?_) hfs)
    (fun _ s' hq => wpAny_pure (wpAny_pure ⟨rfl, hq⟩)) fun _ _ e => e.elim)
  · rintro pre y post rfl C X D ic
    obtain ⟨Γ₁, h1, h2⟩ := hel pre y post rfl C X ic
    refine ⟨Γ₁, h1, TsOk.nil, fun _ => ?_, fun h => by cases h⟩
    rw [hac]
    exact em_listW (F := cF F scope C) h2 (hdp _) (hdp _) (Nat.le_trans (hacl pre) (Nat.le_trans (by simp) hlen))
  · obtain ⟨m, hn⟩ := hn
    have nX : ∀ b, X₀ b → b ≠ C ∧ b ≠ D := fun b hb => by
      obtain ⟨o, e⟩ := S.xin b hb
      exact ⟨fun q => (by rw [q, hC] at e; cases e), fun q => (by rw [q, hD] at e; cases e)⟩
    have hcell : ∀ x c, F.env.cells.lookup x = some c → X₀ c := fun x c e => (S.cells x c e).2.1
    have S₁ : St F ⟨fun a => X₀ a ∨ a = C, Γ, [(xp, c₀, dp xs)]⟩ s' := S'.less (fun a h => h.elim .inl fun q => .inr (.inl q)) (.inl S.locX) (fun x c e => .inl (hcell x c e)) (fun q hq => by obtain rfl := List.mem_singleton.mp hq; exact .inl hX₀c) fun a ha => .inl (S.xc a ha)
    have r₁ : Rd F.prog F.w (fun a => X₀ a ∨ a = C) s'.heap (.list (ac xs)) (.ref D) := Rd.plain <|
      (r.sub (Y := fun a => X₀ a ∨ a = C) fun a ha => .inl (ha.elim .inl fun q => .inr (.inl q))).rd fun q => q.elim (fun z => (nX D z).2 rfl) fun z => hne z.symm
    refine PyProof.Rows.assign_Name (wpAny_mono (S₁.storeL hx.2 hx.1 r₁ hset (noΩ1 hxx)) (fun _ s₂ ⟨S₂, k2, k3⟩ => ?_) fun _ _ e => e.elim)
    have hCL : C ≠ F.env.locals := fun q => (nX _ S.locX).1 q.symm
    have hn₂ : s₂.heap.Ns C m := hn.at' fun o e => k3 C o hCL e
    refine ⟨m, hn₂, fun h' hs => ?_⟩
    refine ⟨St.drop S₂ hn₂ hs (fun q => (nX _ q).1 rfl) S.locX hcell (fun q hq => by obtain rfl := List.mem_singleton.mp hq; exact hX₀c) S.xc (fun o e hw => ?_) (fun o e => ?_), fun b o e hb => ?_⟩
    · have := S.keep _ o hw e; rw [hC] at this; cases this
    · have := S.base _ o e; rw [hC] at this; cases this
    · have hbC : b ≠ C := fun q => by subst q; rw [hC] at e; cases e
      have hbc : b ≠ c₀ := fun q => by
        subst q
        rw [ho₀] at e; cases e
        exact hb.elim (fun z => z hX₀c) nt₀
      show h'.get? b = some o
      rw [hs.2 b hbC]
      obtain ⟨h₁, t₁, rfl, kt⟩ := tp
      refine k2 b o (kt _ _ hbc e) (hb.imp (fun hn q => q.elim hn hbC) id)

/-- the owned container is let be -/
theorem Sx.letBe {X : Addr → Prop} {Γ : List (Str × Option Dt)} {Ω : List (Str × Addr × Dt)} {rest : List Stmt} {K : Flow → Shared → Prop} (hr : Sx F ⟨X, Γ, []⟩ rest K) : Sx F ⟨X, Γ, Ω⟩ rest K := fun s S => hr s { S with own := fun p hp => by cases hp }
end
end Mine
end

section
open PySem PySem.W PyProof.Rows PySem.Calls
set_option autoImplicit false
set_option maxRecDepth 100000
namespace Mine
theorem m14 {p a0 a1 a2 a3 a4 a5 a6 a7 a8 a9 a10 a11 a12 a13 : Str × Option Dt} {l : List (Str × Option Dt)} : p ∈ a0 :: a1 :: a2 :: a3 :: a4 :: a5 :: a6 :: a7 :: a8 :: a9 :: a10 :: a11 :: a12 :: a13 :: p :: l := List.mem_cons_of_mem _ m13
theorem m15 {p a0 a1 a2 a3 a4 a5 a6 a7 a8 a9 a10 a11 a12 a13 a14 : Str × Option Dt} {l : List (Str × Option Dt)} : p ∈ a0 :: a1 :: a2 :: a3 :: a4 :: a5 :: a6 :: a7 :: a8 :: a9 :: a10 :: a11 :: a12 :: a13 :: a14 :: p :: l := List.mem_cons_of_mem _ m14
theorem m16 {p a0 a1 a2 a3 a4 a5 a6 a7 a8 a9 a10 a11 a12 a13 a14 a15 : Str × Option Dt} {l : List (Str × Option Dt)} : p ∈ a0 :: a1 :: a2 :: a3 :: a4 :: a5 :: a6 :: a7 :: a8 :: a9 :: a10 :: a11 :: a12 :: a13 :: a14 :: a15 :: p :: l := List.mem_cons_of_mem _ m15
theorem s14 {x : Str} {o : Option Dt} {d : Dt} {a0 a1 a2 a3 a4 a5 a6 a7 a8 a9 a10 a11 a12 a13 : Str × Option Dt} {l : List (Str × Option Dt)} : SetAt x d (a0 :: a1 :: a2 :: a3 :: a4 :: a5 :: a6 :: a7 :: a8 :: a9 :: a10 :: a11 :: a12 :: a13 :: (x, o) :: l) (a0 :: a1 :: a2 :: a3 :: a4 :: a5 :: a6 :: a7 :: a8 :: a9 :: a10 :: a11 :: a12 :: a13 :: (x, some d) :: l) := SetAt.tail s13
theorem s15 {x : Str} {o : Option Dt} {d : Dt} {a0 a1 a2 a3 a4 a5 a6 a7 a8 a9 a10 a11 a12 a13 a14 : Str × Option Dt} {l : List (Str × Option Dt)} : SetAt x d (a0 :: a1 :: a2 :: a3 :: a4 :: a5 :: a6 :: a7 :: a8 :: a9 :: a10 :: a11 :: a12 :: a13 :: a14 :: (x, o) :: l) (a0 :: a1 :: a2 :: a3 :: a4 :: a5 :: a6 :: a7 :: a8 :: a9 :: a10 :: a11 :: a12 :: a13 :: a14 :: (x, some d) :: l) := SetAt.tail s14
theorem s16 {x : Str} {o : Option Dt} {d : Dt} {a0 a1 a2 a3 a4 a5 a6 a7 a8 a9 a10 a11 a12 a13 a14 a15 : Str × Option Dt} {l : List (Str × Option Dt)} : SetAt x d (a0 :: a1 :: a2 :: a3 :: a4 :: a5 :: a6 :: a7 :: a8 :: a9 :: a10 :: a11 :: a12 :: a13 :: a14 :: a15 :: (x, o) :: l) (a0 :: a1 :: a2 :: a3 :: a4 :: a5 :: a6 :: a7 :: a8 :: a9 :: a10 :: a11 :: a12 :: a13 :: a14 :: a15 :: (x, some d) :: l) := SetAt.tail s15

/-! ## what the law builds -/
noncomputable def lawN (cells : List Int) : Nat := 2 + drawV cells 0 3
noncomputable def lawTable (cells : List Int) : List Int := (List.range (2 ^ lawN cells)).map fun i => ((drawV cells (1 + i) 2 : Nat) : Int)
noncomputable def lawPlaces (cells : List Int) : List Int := (List.range (lawN cells)).map fun i => ((drawV cells (1 + 2 ^ lawN cells + i) 6 : Nat) : Int) - 2
noncomputable def signsP (table : List Int) : List Int := table.map fun b => 1 - 2 * b
noncomputable def oneP (n : Nat) : Poly := [(zeroK n, 1)]
noncomputable def letP (a n : Nat) : Poly := [(unitK a n, 1)]
noncomputable def lettersP (n : Nat) : List Poly := (List.range n).map fun a => letP a n
noncomputable abbrev halfQ : Rat := mkRat 1 2
noncomputable def aboveP (n : Nat) : List Poly := (List.range n).map fun a => pscale (padd (oneP n) (letP a n)) halfQ
noncomputable def belowP (n : Nat) : List Poly := (List.range n).map fun a => pscale (padd (oneP n) (pneg (letP a n))) halfQ
noncomputable def lessP (n : Nat) : List Poly := (List.range n).map fun a => padd (oneP n) (pneg (letP a n))
noncomputable def toldP (n : Nat) (table : List Int) : Poly := halvesP (aboveP n) (belowP n) n n (signsP table)
noncomputable def plainP (n : Nat) (table : List Int) : Poly := halvesP (lessP n) (lettersP n) n n table
noncomputable def tbP (p : Poly) : Tb := p.map fun e => (e.1, [e.2.num, (e.2.den : Int)])
theorem encT_tbP (p : Poly) : encT (tbP p) = encP p := by
  unfold encT tbP encP
  rw [List.map_map]; rfl

noncomputable abbrev ys37 : List Str := ["n", "table", "places", "signs", "worths", "one", "letters", "above", "below", "told", "plain", "spread", "lot", "half", "d", "most"]

/-- the frame's data, as far as the law has come -/
noncomputable def lawΓ (script : List Int) (os : List (Option Dt)) : List (Str × Option Dt) := ("script", some (.list (script.map .int))) :: (ys37.zip os)

noncomputable def worthsP (n : Nat) (table : List Int) : List Int := sumsP n (signsP table)
theorem sumsP_length (n : Nat) (l : List Int) : (sumsP n l).length = l.length := foldl_len _ (sumsRow_length n) _ l
theorem withinP_length (n : Nat) (l : List Int) : (withinP n l).length = l.length := foldl_len _ (withinRow_length n) _ l
noncomputable def spreadP (n : Nat) (table : List Int) : Poly := termsP (signsP table) 1 n
noncomputable def lotP (n : Nat) (table : List Int) : Nat := (table.sum % (2 ^ n : Nat)).toNat
noncomputable def vals5 (n : Nat) (table : List Int) : List Rat := (bitsK (lotP n table) n).map fun b => ((1 - 2 * b : Int) : Rat)
noncomputable def vals6 (places : List Int) : List Rat := places.map fun p => mkRat (1 - p) 2
noncomputable def vals7 (places : List Int) : List Rat := places.map fun p => ((p : Int) : Rat)
noncomputable def oddT (p : Poly) : List Int := (p.filter fun e => decide (e.2.num.fmod 2 = 1)).map fun e => e.1.sum
noncomputable def oddW (worths : List Int) (m : Nat) : List Int := worths.filter fun x => decide (x.fmod ((2 ^ (m + 1) : Nat) : Int) ≠ 0)

structure FolOk (a : Poly) : Prop where
  nd : (a.map (·.1)).Nodup
  len : a.length ≤ 1000
  key : ∀ e ∈ a, e.1.length ≤ 100
  ok : FoldOk a

structure Facts3 (n : Nat) (table : List Int) : Prop where
  ks : ((spreadP n table).map (·.1)).Nodup
  mt : MulOk (toldP n table) (toldP n table) n
  ft : FolOk (pmul (toldP n table) (toldP n table))
  et : tbEq (tbP (foldedP (pmul (toldP n table) (toldP n table)))) (tbP (oneP n)) = true
  ms : MulOk (spreadP n table) (spreadP n table) n
  fs : FolOk (pmul (spreadP n table) (spreadP n table))
  ka : ((termsP (alikeP (signsP table) n) 1 n).map (·.1)).Nodup
  hoth : ∀ r ∈ rowsK n, ∀ b ∈ rowsK n, 0 ≤ otherK r b ∧ (otherK r b).toNat < 2 ^ n
  hrow : ∀ r ∈ rowsK n, r.length = n ∧ ∀ x ∈ r, x = 0 ∨ x = 1
  es : tbEq (tbP (foldedP (pmul (spreadP n table) (spreadP n table)))) (tbP (termsP (alikeP (signsP table) n) 1 n)) = true
  at5 : AtOk (spreadP n table) (vals5 n table)
  e5 : pat (spreadP n table) (vals5 n table) = (((worthsP n table).getD (lotP n table) 0 : Int) : Rat)

structure Facts2 (n : Nat) (table places : List Int) (d m : Nat) (mx : Int) : Prop where
  kt : ((termsP (worthsP n table) (2 ^ n) n).map (·.1)).Nodup
  kp : ((termsP (withinP n table) 1 n).map (·.1)).Nodup
  e1 : tbEq (tbP (toldP n table)) (tbP (termsP (worthsP n table) (2 ^ n) n)) = true
  e2 : tbEq (tbP (plainP n table)) (tbP (termsP (withinP n table) 1 n)) = true
  f3 : n < 4 → Facts3 n table
  nt : ((toldP n table).map (·.1)).Nodup
  np : ((plainP n table).map (·.1)).Nodup
  lp : (plainP n table).length ≤ 1000
  at6 : AtOk (plainP n table) (vals6 places)
  at7 : AtOk (toldP n table) (vals7 places)
  sh : SmR 4000 (pat (plainP n table) (vals6 places))
  e6 : pat (toldP n table) (vals7 places) = mkRat ((pat (plainP n table) (vals6 places)).den - 2 * (pat (plainP n table) (vals6 places)).num) (pat (plainP n table) (vals6 places)).den
  hd : (d : Int) ∈ 0 :: oddT (plainP n table)
  hdm : ∀ x ∈ 0 :: oddT (plainP n table), x ≤ (d : Int)
  dn : d ≤ n
  hm : oddW (worthsP n table) m ≠ []
  hml : ∀ j < m, oddW (worthsP n table) j = []
  mb : m ≤ 50
  c20 : 0 < d → (n + d - 1) / d ≤ m
  c21 : 0 < table.sum → (2 ^ (n - d) : Nat) ≤ table.sum
  hx : mx ∈ (worthsP n table).map fun x => ((x.natAbs : Nat) : Int)
  hxm : ∀ x ∈ (worthsP n table).map (fun x => ((x.natAbs : Nat) : Int)), x ≤ mx
  c22 : n = 4 → 2 < d → mx ≠ 4
  c23 : d + m ≤ n + 1

theorem bitsK01 (m n : Nat) : ∀ b ∈ bitsK m n, b = 0 ∨ b = 1 := by
  intro b hb
  unfold bitsK at hb
  obtain ⟨i, _, rfl⟩ := List.mem_map.mp hb
  omega

theorem swaps_true {elt : Expr} {gens : List Comprehension} {scope : Scope} {pos px : Pos} {x : Str} {line : Nat} {env : Env} (hf : env.scope.kind = .function) (hx : env.kindOf x = some .local)
    (hc : (px.line == pos.line && !(scope.names.any fun (n, k) => n == x && (k == .local || k == .cell))) = true) : swapsWith (.ListComp elt gens scope pos) (some (.Name x px)) line env = pure true := by
  have hb : env.blockKind = .function := by unfold Env.blockKind; rw [hf]; rfl
  rw [Bool.and_eq_true] at hc
  unfold swapsWith
  simp only [hb, hx]
  show pure ((ScopeKind.function == ScopeKind.function) && ((some NameKind.local : Option NameKind) == some .local) && (px.line == pos.line) && !(scope.names.any fun (n, k) => n == x && (k == .local || k == .cell))) = _
  rw [hc.1, hc.2]; rfl

theorem half_num : halfQ.num = 1 := by decide +kernel
theorem half_den : halfQ.den = 2 := by decide +kernel
theorem half_enc : encR halfQ = .tup [.int 1, .int 2] := by
  show keyD [halfQ.num, (halfQ.den : Int)] = _
  rw [half_num, half_den]; rfl
end Mine
end

section
open PySem PySem.W PyProof.Rows PySem.Calls
set_option autoImplicit false
set_option maxRecDepth 100000
namespace Mine

structure Facts1 (prog : Program) (w : World) (n : Nat) (table places : List Int) : Prop where
  above : ∀ a < n, SumOk prog w (oneP n) (letP a n) ∧ ((padd (oneP n) (letP a n)).map (·.1)).Nodup ∧ (∀ e ∈ padd (oneP n) (letP a n), SmR 4000 e.2) ∧ (padd (oneP n) (letP a n)).length ≤ 1000
  below : ∀ a < n, SumOk prog w (oneP n) (pneg (letP a n)) ∧ ((padd (oneP n) (pneg (letP a n))).map (·.1)).Nodup ∧ (∀ e ∈ padd (oneP n) (pneg (letP a n)), SmR 4000 e.2) ∧ (padd (oneP n) (pneg (letP a n))).length ≤ 1000
  told : HOk prog w (aboveP n) (belowP n) n n (signsP table)
  plain : HOk prog w (lessP n) (lettersP n) n n table

theorem drawN (cells : List Int) : 2 ≤ lawN cells ∧ lawN cells ≤ 4 := by
  have : drawV cells 0 3 < 3 := Nat.mod_lt _ (by decide)
  unfold lawN; omega

theorem law_walk {prog : Program} {w : World} (script : List Int) (n : Nat) (hn : n = lawN (script.take 21)) (table places : List Int) (ht : table = lawTable (script.take 21)) (hp : places = lawPlaces (script.take 21)) (f1 : Facts1 prog w n table places) (d m : Nat) (mx : Int) (f2 : Facts2 n table places d m mx) (hsl : script.length ≤ 63) :
    Fn prog w 12 37 [.list (script.map .int)] (.bool true) := by
  refine Fn.of_body (xs := ["script"]) (ys := ys37) rfl (fun pm code doc vs h => ?_) (by decide) (by decide +kernel) (by decide +kernel) (by decide +kernel) (by decide +kernel) fun F X hpr hw ctx => ?_
  · match vs, h with
    | [x], _ => rfl
  subst hpr hw
  obtain ⟨hn2, hn4⟩ := drawN (script.take 21)
  rw [← hn] at hn2 hn4
  have h100 : (100 : Nat) ≤ sizeLine := by decide
  have h16 : 2 ^ n ≤ 16 := Nat.pow_le_pow_right (n := 2) (by decide) hn4
  have r0 : Room 0 F.A := ctx.room.mono (by decide)
  have hlc : (script.take 21).length ≤ 100 := by rw [List.length_take]; omega
  show Sx F ⟨X, [("script", some (.list (script.map .int))), ("n", none), ("table", none), ("places", none), ("signs", none), ("worths", none), ("one", none), ("letters", none), ("above", none), ("below", none), ("told", none), ("plain", none), ("spread", none), ("lot", none), ("half", none), ("d", none), ("most", none)], []⟩ (_ :: _ :: _ :: _ :: _ :: _ :: _ :: _ :: _ :: _ :: _ :: _ :: _ :: _ :: _ :: _ :: _ :: _ :: _ :: _ :: _ :: _ :: _ :: []) _
  -- pool
  generalize hcells : script.take 21 = cells at hn ht hp hlc
  refine Sx.own (d := poolD cells 0) (ExN.weak (ExN.lst (ExL.cons ?_ (ExL.cons Ex.num ExL.nil)) (show (2 : Nat) ≤ 1000 by decide))) .l (ctx.ow (by decide +kernel)) (bS (by decide +kernel) (bO (bO (bO (bO (bO (bO (bO (bO (bO (bO (bO (bO (bO (bO (bO (bO bN))))))))))))))))) (by rfl) fun c hc => ?_
  · rw [← hcells, List.map_take]
    have e : List.take 21 (script.map Dt.int) = (script.take 21).map Dt.int := by rw [List.map_take]
    rw [e]
    refine Ex.lc (script.take 21) Dt.int Dt.int [("cell", none)] ["cell"] e (Src.list ctx.room.1 (Ex.sliceTo (Ex.name m0).c Ex.num (by simp; omega))) (CompOk.of ctx.names (by decide +kernel)) rfl (by decide +kernel) (HG.bare HG.nil) (fun i hi C Y ic => ?_) (by rw [hcells]; omega)
    exact ⟨[("cell", some (.int i))], TgL.n (ic.lo (by decide +kernel)) s0, Ex.int (ic.gl (by decide +kernel)) (Ex.name m0)⟩
  have hc0 : F.s₀.heap.get? c = none := hc.elim id fun q => absurd q (ctx.pure c)
  -- n
  refine Sx.cons (Es.assignW (ExW.addR Ex.num (ExW.call (Fn.draw cells 0 3 hlc (by decide) (by decide)) (ctx.room.mono (by decide)) (ctx.gl (by decide +kernel)) .l (ExL.cons Ex.num ExL.nil) (by decide) (by rfl))) .l .l (ctx.ow (by decide +kernel)) s1 (by decide +kernel) (by rfl)) rfl ?_
  have en : (2 : Int) + (drawV cells 0 3 : Nat) = (n : Int) := by rw [hn]; unfold lawN; omega
  rw [en]
  -- table
  refine Sx.cons (Es.lcW (List.range (2 ^ n)) (fun i => .int (i : Int)) (fun pre _ => .int ((drawV cells (1 + pre.length) 2 : Nat) : Int)) (fun pre => (List.range pre.length).map fun i => Dt.int ((drawV cells (1 + i) 2 : Nat) : Int)) (fun pre => poolD cells (1 + pre.length)) [("spot", none)] ["spot"] rfl
    rfl (fun pre x => by rw [List.length_append, List.length_singleton, List.range_succ, List.map_append]; rfl) (fun pre => by simp) (fun _ => .l) (by decide +kernel) (by decide +kernel) (ctx.lo (by decide +kernel))
    (Src.range ctx.room.1 (ctx.gl (by decide +kernel)) (Ex.two (Ex.name m1) (by omega)) (by omega)) (CompOk.of ctx.names (by decide +kernel)) rfl (by decide +kernel) (HG.bare HG.nil) (fun pre x post hpre C Y ic => ?_) s2 ?_ (by simp; omega)) rfl ?_
  · have hpl : pre.length ≤ 16 := by
      have := congrArg List.length hpre
      simp at this; omega
    refine ⟨[("spot", some (.int x))], TgL.n (ic.lo (by decide +kernel)) s0, ?_⟩
    rw [List.length_append, List.length_singleton]
    exact ExW.call (Fn.draw cells (1 + pre.length) 2 hlc (by omega) (by decide)) (ctx.room.mono (by decide)) (ic.gl (by decide +kernel)) .l (ExL.cons Ex.num ExL.nil) (by decide) (by rfl)
  · exact swaps_true ctx.fn (ctx.lo (by decide +kernel)).2 (by decide +kernel)
  have etab : (List.range (List.range (2 ^ n)).length).map (fun i => Dt.int ((drawV cells (1 + i) 2 : Nat) : Int)) = table.map Dt.int := by
    rw [List.length_range, ht, lawTable, List.map_map, hn]; rfl
  rw [etab, List.length_range]
  have etl : table.length = 2 ^ n := by rw [ht, lawTable]; simp [hn]
  have ht01 : ∀ b ∈ table, b = 0 ∨ b = 1 := by
    intro b hb
    rw [ht, lawTable] at hb
    obtain ⟨i, _, rfl⟩ := List.mem_map.mp hb
    have : drawV cells (1 + i) 2 < 2 := Nat.mod_lt _ (by decide)
    omega
  -- places
  refine Sx.cons (Es.lcW (List.range n) (fun i => .int (i : Int)) (fun pre _ => .int (((drawV cells (1 + 2 ^ n + pre.length) 6 : Nat) : Int) - 2)) (fun pre => (List.range pre.length).map fun i => Dt.int (((drawV cells (1 + 2 ^ n + i) 6 : Nat) : Int) - 2)) (fun pre => poolD cells (1 + 2 ^ n + pre.length)) [("at", none)] ["at"] rfl
    rfl (fun pre x => by rw [List.length_append, List.length_singleton, List.range_succ, List.map_append]; rfl) (fun pre => by simp) (fun _ => .l) (by decide +kernel) (by decide +kernel) (ctx.lo (by decide +kernel))
    (Src.range ctx.room.1 (ctx.gl (by decide +kernel)) (Ex.name m1) (by omega)) (CompOk.of ctx.names (by decide +kernel)) rfl (by decide +kernel) (HG.bare HG.nil) (fun pre x post hpre C Y ic => ?_) s3 ?_ (by simp; omega)) rfl ?_
  · have hpl : pre.length ≤ 16 := by
      have := congrArg List.length hpre
      simp at this; omega
    refine ⟨[("at", some (.int x))], TgL.n (ic.lo (by decide +kernel)) s0, ?_⟩
    rw [List.length_append, List.length_singleton]
    exact ExW.subL (ExW.call (Fn.draw cells (1 + 2 ^ n + pre.length) 6 hlc (by omega) (by decide)) (ctx.room.mono (by decide)) (ic.gl (by decide +kernel)) .l (ExL.cons Ex.num ExL.nil) (by decide) (by rfl)) .l .l Ex.num
  · exact swaps_true ctx.fn (ctx.lo (by decide +kernel)).2 (by decide +kernel)
  have epl : (List.range (List.range n).length).map (fun i => Dt.int (((drawV cells (1 + 2 ^ n + i) 6 : Nat) : Int) - 2)) = places.map Dt.int := by
    rw [List.length_range, hp, lawPlaces, List.map_map, hn]; rfl
  rw [epl]
  have epll : places.length = n := by rw [hp, lawPlaces]; simp [hn]
  refine Sx.letBe ?_
  -- signs
  refine Sx.cons (Es.lc table Dt.int (fun b => Dt.int (1 - 2 * b)) [("bit", none)] ["bit"] rfl (ctx.lo (by decide +kernel)) (Src.list ctx.room.1 (Ex.name m2)) (CompOk.of ctx.names (by decide +kernel)) rfl (by decide +kernel) (HG.bare HG.nil) (fun b hb C Y ic => ?_) s4 noΩ ?_ (by omega)) rfl ?_
  · refine ⟨[("bit", some (.int b))], TgL.n (ic.lo (by decide +kernel)) s0, Ex.sub Ex.num (Ex.mul Ex.num (Ex.name m0) (Sml.mulOk ((show Sml 2 2 by unfold Sml; decide).mono (by decide)) ?_))⟩
    have : Sml 1 b := by rcases ht01 b hb with rfl | rfl <;> (unfold Sml; decide)
    exact this.mono (by decide)
  · exact swaps_true ctx.fn (ctx.lo (by decide +kernel)).2 (by decide +kernel)
  have esg : table.map (fun b => Dt.int (1 - 2 * b)) = (signsP table).map Dt.int := by unfold signsP; rw [List.map_map]; rfl
  rw [esg]
  have esl : (signsP table).length = 2 ^ n := by unfold signsP; simpa using etl
  -- worths
  refine Sx.cons (Es.assign (ctx.ow (by decide +kernel)) (Ex.call (Fn.sums (signsP table) n hn4 esl) (ctx.room.mono (by decide)) (ctx.gl (by decide +kernel)) (ExL.cons (Ex.name m4) (ExL.cons (Ex.name m1) ExL.nil)) (by decide) (by rfl)) s5 noΩ (by rfl)) rfl ?_
  -- one
  refine Sx.cons (Es.assign (d := .dict (encP (oneP n))) (ctx.ow (by decide +kernel)) (Ex.cast (Ex.call (Fn.mvnumber 1 n ⟨hn2, hn4⟩) (ctx.room.mono (by decide)) (ctx.gl (by decide +kernel)) (ExL.cons (Ex.cast (Ex.tpl (ExL.cons Ex.num (ExL.cons Ex.num ExL.nil)) (show (2 : Nat) ≤ 1000 by decide)) rfl) (ExL.cons (Ex.name m1) ExL.nil)) (by decide) (by rfl)) (by rw [if_neg (by decide)]; rfl)) s6 noΩ (by rfl)) rfl ?_
  -- letters
  refine Sx.cons (Es.lc (List.range n) (fun i => .int (i : Int)) (fun a => Dt.dict (encP (letP a n))) [("n", some (.int n)), ("at", none)] ["n", "at"] rfl (ctx.lo (by decide +kernel)) (Src.range ctx.room.1 (ctx.gl (by decide +kernel)) (Ex.name m1) (by omega)) (CompOk.of ctx.names (by decide +kernel)) rfl (by decide +kernel)
    (HG.free m1 (by decide +kernel) (HG.bare HG.nil)) (fun a ha C Y ic => ?_) s7 noΩ ?_ (by simp; omega)) rfl ?_
  · exact ⟨[("n", some (.int n)), ("at", some (.int a))], TgL.n (ic.lo (by decide +kernel)) s1, Ex.call (Fn.mvletter a n (by omega)) (ctx.room.mono (by decide)) (ic.gl (by decide +kernel)) (ExL.cons (Ex.name m1) (ExL.cons (Ex.name m0) ExL.nil)) (by decide) (by rfl)⟩
  · exact swaps_true ctx.fn (ctx.lo (by decide +kernel)).2 (by decide +kernel)
  have hsq : SmR 4000 halfQ := by
    refine ⟨?_, ?_⟩
    · rw [half_num]; exact (show Sml 1 (1 : Int) by unfold Sml; decide).mono (by decide)
    · rw [half_den]; exact (show Sml 2 ((2 : Nat) : Int) by unfold Sml; decide).mono (by decide)
  have hq0 : halfQ ≠ 0 := fun q => by have := congrArg Rat.num q; rw [half_num] at this; exact absurd this (by decide)
  -- above
  refine Sx.cons (Es.lc (List.range n) (fun a => Dt.dict (encP (letP a n))) (fun a => Dt.dict (encP (pscale (padd (oneP n) (letP a n)) halfQ))) [("one", some (.dict (encP (oneP n)))), ("letter", none)] ["one", "letter"] rfl (ctx.lo (by decide +kernel)) (Src.list ctx.room.1 (Ex.name m7)) (CompOk.of ctx.names (by decide +kernel)) rfl (by decide +kernel)
    (HG.free m6 (by decide +kernel) (HG.bare HG.nil)) (fun a ha C Y ic => ?_) s8 noΩ ?_ (by simp; omega)) rfl ?_
  · obtain ⟨g1, g2, g3, g4⟩ := f1.above a (List.mem_range.mp ha)
    exact ⟨[("one", some (.dict (encP (oneP n)))), ("letter", some (.dict (encP (letP a n))))], TgL.n (ic.lo (by decide +kernel)) s1,
      Ex.call (Fn.mvscale _ halfQ hq0 g2 g3 hsq g4) (ctx.room.mono (by decide)) (ic.gl (by decide +kernel)) (ExL.cons (Ex.call (Fn.mvadd _ _ g1.nb g1.ok g1.la g1.ha) (ctx.room.mono (by decide)) (ic.gl (by decide +kernel)) (ExL.cons (Ex.name m0) (ExL.cons (Ex.name m1) ExL.nil)) (by decide) (by rfl))
        (ExL.cons (Ex.cast (Ex.tpl (ExL.cons Ex.num (ExL.cons Ex.num ExL.nil)) (show (2 : Nat) ≤ 1000 by decide)) half_enc.symm) ExL.nil)) (by decide) (by rfl)⟩
  · exact swaps_true ctx.fn (ctx.lo (by decide +kernel)).2 (by decide +kernel)
  -- below
  refine Sx.cons (Es.lc (List.range n) (fun a => Dt.dict (encP (letP a n))) (fun a => Dt.dict (encP (pscale (padd (oneP n) (pneg (letP a n))) halfQ))) [("one", some (.dict (encP (oneP n)))), ("letter", none)] ["one", "letter"] rfl (ctx.lo (by decide +kernel)) (Src.list ctx.room.1 (Ex.name m7)) (CompOk.of ctx.names (by decide +kernel)) rfl (by decide +kernel)
    (HG.free m6 (by decide +kernel) (HG.bare HG.nil)) (fun a ha C Y ic => ?_) s9 noΩ ?_ (by simp; omega)) rfl ?_
  · obtain ⟨g1, g2, g3, g4⟩ := f1.below a (List.mem_range.mp ha)
    exact ⟨[("one", some (.dict (encP (oneP n)))), ("letter", some (.dict (encP (letP a n))))], TgL.n (ic.lo (by decide +kernel)) s1,
      Ex.call (Fn.mvscale _ halfQ hq0 g2 g3 hsq g4) (ctx.room.mono (by decide)) (ic.gl (by decide +kernel)) (ExL.cons (Ex.call (Fn.mvsub _ (letP a n) (by simp [letP]) g1.ok g1.la (by simp [letP]) g1.ha) (ctx.room.mono (by decide)) (ic.gl (by decide +kernel)) (ExL.cons (Ex.name m0) (ExL.cons (Ex.name m1) ExL.nil)) (by decide) (by rfl))
        (ExL.cons (Ex.cast (Ex.tpl (ExL.cons Ex.num (ExL.cons Ex.num ExL.nil)) (show (2 : Nat) ≤ 1000 by decide)) half_enc.symm) ExL.nil)) (by decide) (by rfl)⟩
  · exact swaps_true ctx.fn (ctx.lo (by decide +kernel)).2 (by decide +kernel)
  have eab : (List.range n).map (fun a => Dt.dict (encP (pscale (padd (oneP n) (letP a n)) halfQ))) = (aboveP n).map fun p => .dict (encP p) := by unfold aboveP; rw [List.map_map]; rfl
  have ebe : (List.range n).map (fun a => Dt.dict (encP (pscale (padd (oneP n) (pneg (letP a n))) halfQ))) = (belowP n).map fun p => .dict (encP p) := by unfold belowP; rw [List.map_map]; rfl
  have ele : (List.range n).map (fun a => Dt.dict (encP (letP a n))) = (lettersP n).map fun p => .dict (encP p) := by unfold lettersP; rw [List.map_map]; rfl
  rw [eab, ebe]
  have hroom : Room (6 + n) F.A := ctx.room.mono (by omega)
  -- told
  refine Sx.cons (Es.assign (ctx.ow (by decide +kernel)) (Ex.call (Fn.halves (aboveP n) (belowP n) n ⟨hn2, hn4⟩ (by simp [aboveP]) (by simp [belowP]) n (signsP table) (Nat.le_refl _) esl f1.told) hroom (ctx.gl (by decide +kernel))
    (ExL.cons (Ex.name m4) (ExL.cons (Ex.name m1) (ExL.cons (Ex.name m8) (ExL.cons (Ex.name m9) (ExL.cons (Ex.name m1) ExL.nil))))) (by decide) (by rfl)) s10 noΩ (by rfl)) rfl ?_
  -- plain
  refine Sx.cons (Es.assign (ctx.ow (by decide +kernel)) (Ex.call (Fn.halves (lessP n) (lettersP n) n ⟨hn2, hn4⟩ (by simp [lessP]) (by simp [lettersP]) n table (Nat.le_refl _) etl f1.plain) hroom (ctx.gl (by decide +kernel))
    (ExL.cons (Ex.name m2) (ExL.cons (Ex.name m1) (ExL.cons ?_ (ExL.cons (Ex.cast (Ex.name m7) (by rw [ele])) (ExL.cons (Ex.name m1) ExL.nil))))) (by decide) (by rfl)) s11 noΩ (by rfl)) rfl ?_
  · refine Ex.cast (Ex.lc (List.range n) (fun a => Dt.dict (encP (letP a n))) (fun a => Dt.dict (encP (padd (oneP n) (pneg (letP a n))))) [("one", some (.dict (encP (oneP n)))), ("letter", none)] ["one", "letter"] rfl (Src.list ctx.room.1 (Ex.name m7)) (CompOk.of ctx.names (by decide +kernel)) rfl (by decide +kernel)
      (HG.free m6 (by decide +kernel) (HG.bare HG.nil)) (fun a ha C Y ic => ?_) (by simp; omega)) (by unfold lessP; rw [List.map_map]; rfl)
    obtain ⟨g1, g2, g3, g4⟩ := f1.below a (List.mem_range.mp ha)
    exact ⟨[("one", some (.dict (encP (oneP n)))), ("letter", some (.dict (encP (letP a n))))], TgL.n (ic.lo (by decide +kernel)) s1,
      Ex.call (Fn.mvsub _ (letP a n) (by simp [letP]) g1.ok g1.la (by simp [letP]) g1.ha) (ctx.room.mono (by decide)) (ic.gl (by decide +kernel)) (ExL.cons (Ex.name m0) (ExL.cons (Ex.name m1) ExL.nil)) (by decide) (by rfl)⟩
  have h1s : Sml 9000 ((1 : Nat) : Int) := (show Sml 1 ((1 : Nat) : Int) by unfold Sml; decide).mono (by decide)
  have c1 : ∀ {σ : Ix} {k : Nat} {p : Pos}, Ex F σ (.Constant (.int 1) k p) (.int ((1 : Nat) : Int)) := Ex.num
  have wl : (worthsP n table).length = 2 ^ n := by unfold worthsP; rw [sumsP_length, esl]
  have wil : (withinP n table).length = 2 ^ n := by rw [withinP_length, etl]
  have p2 : 2 ^ n ≠ 0 := by have := Nat.pow_pos (n := n) (show 0 < 2 by decide); omega
  show Sx F ⟨fun a => X a ∨ a = c, [("script", some (.list (script.map .int))), ("n", some (.int n)), ("table", some (.list (table.map .int))), ("places", some (.list (places.map .int))), ("signs", some (.list ((signsP table).map .int))), ("worths", some (.list ((sumsP n (signsP table)).map .int))), ("one", some (.dict (encP (oneP n)))), ("letters", some (.list ((List.range n).map fun a => Dt.dict (encP (letP a n))))), ("above", some (.list ((aboveP n).map fun p => .dict (encP p)))), ("below", some (.list ((belowP n).map fun p => .dict (encP p)))), ("told", some (.dict (encP (toldP n table)))), ("plain", some (.dict (encP (plainP n table)))), ("spread", none), ("lot", none), ("half", none), ("d", none), ("most", none)], []⟩ _ _
  generalize (fun a => X a ∨ a = c) = X
  -- the two comparisons
  refine Sx.ifF (Tx.or_ff ((Tx.cmp (Ex.cast (Ex.name m10) (show Dt.dict (encP (toldP n table)) = .dict (encT (tbP (toldP n table))) by rw [encT_tbP])).c
      (Ex.cast (Ex.call (Fn.terms (worthsP n table) (2 ^ n) n (by omega) (by omega) p2 (sml_pow (by omega)) f2.kt) (ctx.room.mono (by decide)) (ctx.gl (by decide +kernel)) (ExL.cons (Ex.name m5) (ExL.cons (Ex.two (Ex.name m1) (by omega)) (ExL.cons (Ex.name m1) ExL.nil))) (by decide) (by rfl))
        (show _ = Dt.dict (encT (tbP (termsP (worthsP n table) (2 ^ n) n))) by rw [encT_tbP])).c (Cp.neD r0) (by rfl)).cast (by rw [f2.e1]; rfl))
    (Tx.or_ff ((Tx.cmp (Ex.cast (Ex.name m11) (show Dt.dict (encP (plainP n table)) = .dict (encT (tbP (plainP n table))) by rw [encT_tbP])).c
      (Ex.cast (Ex.call (Fn.terms (withinP n table) 1 n (by omega) (by omega) (by decide) h1s f2.kp) (ctx.room.mono (by decide)) (ctx.gl (by decide +kernel))
        (ExL.cons (Ex.call (Fn.within table n hn4 etl) (ctx.room.mono (by decide)) (ctx.gl (by decide +kernel)) (ExL.cons (Ex.name m2) (ExL.cons (Ex.name m1) ExL.nil)) (by decide) (by rfl)) (ExL.cons c1 (ExL.cons (Ex.name m1) ExL.nil))) (by decide) (by rfl))
        (show _ = Dt.dict (encT (tbP (termsP (withinP n table) 1 n))) by rw [encT_tbP])).c (Cp.neD r0) (by rfl)).cast (by rw [f2.e2]; rfl)) Tx.or_nil)) Sx.nil ?_
  have hs10 : ∀ x ∈ signsP table, Sml 10 x := by
    intro x hx
    unfold signsP at hx
    obtain ⟨b, hb, rfl⟩ := List.mem_map.mp hx
    rcases ht01 b hb with rfl | rfl <;> (unfold Sml; decide)
  have pi : ((2 ^ n : Nat) : Int) ≠ 0 := by exact_mod_cast p2
  -- n < 4
  refine Sx.cons (σ' := ⟨X, [("script", some (.list (script.map .int))), ("n", some (.int n)), ("table", some (.list (table.map .int))), ("places", some (.list (places.map .int))), ("signs", some (.list ((signsP table).map .int))), ("worths", some (.list ((sumsP n (signsP table)).map .int))), ("one", some (.dict (encP (oneP n)))), ("letters", some (.list ((List.range n).map fun a => Dt.dict (encP (letP a n))))), ("above", some (.list ((aboveP n).map fun p => .dict (encP p)))), ("below", some (.list ((belowP n).map fun p => .dict (encP p)))), ("told", some (.dict (encP (toldP n table)))), ("plain", some (.dict (encP (plainP n table)))), ("spread", none), ("lot", none), ("half", none), ("d", none), ("most", none)], []⟩) (Es.ifExec (c := decide (n < 4)) ((Tx.cmp (Ex.name m1).c (Ex.num (i := 4)).c Cp.lt (by rfl)).cast ?_) (fun h => ?_) (fun _ => Sx.nil)) rfl ?_
  · by_cases h : n < 4
    · have : (n : Int) < 4 := by omega
      simp [h, this]
    · have : ¬ ((n : Int) < 4) := by omega
      simp [h, this]
  · have hn3 : n < 4 := by simpa using h
    have f3 := f2.f3 hn3
    have elot : (table.sum).fmod ((2 ^ n : Nat) : Int) = ((lotP n table : Nat) : Int) := by
      unfold lotP
      rw [Int.fmod_eq_emod_of_nonneg _ (Int.natCast_nonneg _), Int.toNat_of_nonneg (Int.emod_nonneg _ pi)]
    have hlot : lotP n table < 2 ^ n := by
      have h1 := Int.emod_lt_of_pos table.sum (show (0 : Int) < ((2 ^ n : Nat) : Int) by have := Nat.pos_of_ne_zero p2; omega)
      have h2 := Int.emod_nonneg table.sum pi
      unfold lotP; omega
    refine Sx.cons (Es.assign2 (ctx.lo (by decide +kernel)) (ctx.lo (by decide +kernel)) ctx.fn ctx.room.1 (d₁ := .dict (encP (spreadP n table))) (d₂ := .int (lotP n table)) (Ex.tpl
      (ExL.cons (Ex.call (Fn.terms (signsP table) 1 n (by omega) (by omega) (by decide) h1s f3.ks) (ctx.room.mono (by decide)) (ctx.gl (by decide +kernel)) (ExL.cons (Ex.name m4) (ExL.cons c1 (ExL.cons (Ex.name m1) ExL.nil))) (by decide) (by rfl))
      (ExL.cons ((Ex.mod (Ex.sumL ctx.room.1 (ctx.gl (by decide +kernel)) (Ex.name m2)) (Ex.two (Ex.name m1) (by omega)) pi).cast (by rw [elot])) ExL.nil)) (show (2 : Nat) ≤ 1000 by decide)) s13 s12 noΩ noΩ (by decide +kernel)) rfl ?_
    -- folded squares
    refine Sx.ifF ((Tx.cmp (Ex.cast (Ex.call (Fn.folded (pmul (toldP n table) (toldP n table)) f3.ft.nd f3.ft.len f3.ft.key f3.ft.ok) (ctx.room.mono (by decide)) (ctx.gl (by decide +kernel))
        (ExL.cons (Ex.call (Fn.mvmul _ _ n (by omega) f3.mt.na f3.mt.nb f3.mt.ka f3.mt.kb f3.mt.sa f3.mt.sb f3.mt.ok) (ctx.room.mono (by decide)) (ctx.gl (by decide +kernel)) (ExL.cons (Ex.name m10) (ExL.cons (Ex.name m10) ExL.nil)) (by decide) (by rfl)) ExL.nil) (by decide) (by rfl))
        (show _ = Dt.dict (encT (tbP (foldedP (pmul (toldP n table) (toldP n table))))) by rw [encT_tbP])).c
      (Ex.cast (Ex.name m6) (show _ = Dt.dict (encT (tbP (oneP n))) by rw [encT_tbP])).c (Cp.neD r0) (by rfl)).cast (by rw [f3.et]; rfl)) Sx.nil ?_
    refine Sx.ifF ((Tx.cmp (Ex.cast (Ex.call (Fn.folded (pmul (spreadP n table) (spreadP n table)) f3.fs.nd f3.fs.len f3.fs.key f3.fs.ok) (ctx.room.mono (by decide)) (ctx.gl (by decide +kernel))
        (ExL.cons (Ex.call (Fn.mvmul _ _ n (by omega) f3.ms.na f3.ms.nb f3.ms.ka f3.ms.kb f3.ms.sa f3.ms.sb f3.ms.ok) (ctx.room.mono (by decide)) (ctx.gl (by decide +kernel)) (ExL.cons (Ex.name m12) (ExL.cons (Ex.name m12) ExL.nil)) (by decide) (by rfl)) ExL.nil) (by decide) (by rfl))
        (show _ = Dt.dict (encT (tbP (foldedP (pmul (spreadP n table) (spreadP n table))))) by rw [encT_tbP])).c
      (Ex.cast (Ex.call (Fn.terms (alikeP (signsP table) n) 1 n (by omega) (by simp [alikeP, rowsK]; omega) (by decide) h1s f3.ka) (ctx.room.mono (by decide)) (ctx.gl (by decide +kernel))
        (ExL.cons (Ex.call (Fn.alike (signsP table) n hn4 esl hs10 f3.hoth f3.hrow) (ctx.room.mono (by decide)) (ctx.gl (by decide +kernel)) (ExL.cons (Ex.name m4) (ExL.cons (Ex.name m1) ExL.nil)) (by decide) (by rfl)) (ExL.cons c1 (ExL.cons (Ex.name m1) ExL.nil))) (by decide) (by rfl))
        (show _ = Dt.dict (encT (tbP (termsP (alikeP (signsP table) n) 1 n))) by rw [encT_tbP])).c (Cp.neD r0) (by rfl)).cast (by rw [f3.es]; rfl)) Sx.nil ?_
    refine Sx.ifF ((Tx.cmp (Ex.call (Fn.mvat (spreadP n table) (vals5 n table) f3.ks f3.at5 (by simp [vals5, bitsK]; omega)) (ctx.room.mono (by decide)) (ctx.gl (by decide +kernel)) (ExL.cons (Ex.name m12) (ExL.cons ?_ ExL.nil)) (by decide) (by rfl)).c
      (Ex.cast (Ex.tpl (ExL.cons (Ex.itemL (Ex.name m5).c (Ex.name m13) (Int.natCast_nonneg _) (by rw [Int.toNat_natCast]; exact getI (by have := wl; unfold worthsP at this; omega)) (by omega) (by intro _ _; rfl)) (ExL.cons Ex.num ExL.nil)) (show (2 : Nat) ≤ 1000 by decide)) (show _ = keyD [(worthsP n table).getD (lotP n table) 0, 1] from rfl)).c (Cp.neT r0) (by rfl)).cast ?_) Sx.nil ?_
    · refine Ex.cast (Ex.lc (bitsK (lotP n table) n) Dt.int (fun b => encR ((1 - 2 * b : Int) : Rat)) [("bit", none)] ["bit"] rfl (Src.tuple ctx.room.1 (Ex.call (Fn.bits (lotP n table) n (by omega)) (ctx.room.mono (by decide)) (ctx.gl (by decide +kernel)) (ExL.cons (Ex.name m13) (ExL.cons (Ex.name m1) ExL.nil)) (by decide) (by rfl)))
        (CompOk.of ctx.names (by decide +kernel)) rfl (by decide +kernel) (HG.bare HG.nil) (fun b hb C Y ic => ?_) (by simp [bitsK]; omega)) (by unfold vals5; rw [List.map_map]; rfl)
      refine ⟨[("bit", some (.int b))], TgL.n (ic.lo (by decide +kernel)) s0, ?_⟩
      rw [encR_int]
      have : Sml 1 b := by rcases bitsK01 _ _ b hb with rfl | rfl <;> (unfold Sml; decide)
      exact Ex.tpl (ExL.cons (Ex.sub Ex.num (Ex.mul Ex.num (Ex.name m0) (Sml.mulOk ((show Sml 2 2 by unfold Sml; decide).mono (by decide)) (this.mono (by decide))))) (ExL.cons Ex.num ExL.nil)) (show (2 : Nat) ≤ 1000 by decide)
    · rw [f3.e5]
      simp
    · exact Sx.nilF (FG.keep (FG.keep (FG.keep (FG.keep (FG.keep (FG.keep (FG.keep (FG.keep (FG.keep (FG.keep (FG.keep (FG.keep (FG.drop (FG.drop (FG.keep (FG.keep (FG.keep FG.nil)))))))))))))))))
  have hpl : ∀ x ∈ places, -2 ≤ x ∧ x ≤ 3 := by
    intro x hx
    rw [hp, lawPlaces] at hx
    obtain ⟨i, _, rfl⟩ := List.mem_map.mp hx
    have : drawV cells (1 + 2 ^ lawN cells + i) 6 < 6 := Nat.mod_lt _ (by decide)
    omega
  have c2 : ∀ {F : Fx} {σ : Ix} {k : Nat} {p : Pos}, Ex F σ (.Constant (.int 2) k p) (.int ((2 : Nat) : Int)) := Ex.num
  have h2s : Sml 9000 ((2 : Nat) : Int) := (show Sml 2 ((2 : Nat) : Int) by unfold Sml; decide).mono (by decide)
  -- half
  refine Sx.cons (Es.assign (ctx.ow (by decide +kernel)) (Ex.call (Fn.mvat (plainP n table) (vals6 places) f2.np f2.at6 (by simp [vals6]; omega)) (ctx.room.mono (by decide)) (ctx.gl (by decide +kernel)) (ExL.cons (Ex.name m11) (ExL.cons ?_ ExL.nil)) (by decide) (by rfl)) s14 noΩ (by rfl)) rfl ?_
  · refine Ex.cast (Ex.lc places Dt.int (fun p => encR (mkRat (1 - p) 2)) [("place", none)] ["place"] rfl (Src.list ctx.room.1 (Ex.name m3)) (CompOk.of ctx.names (by decide +kernel)) rfl (by decide +kernel) (HG.bare HG.nil) (fun b hb C Y ic => ?_) (by omega)) (by unfold vals6; rw [List.map_map]; rfl)
    exact ⟨[("place", some (.int b))], TgL.n (ic.lo (by decide +kernel)) s0, Ex.call (Fn.rat (1 - b) 2 (by decide) h2s) (ctx.room.mono (by decide)) (ic.gl (by decide +kernel)) (ExL.cons (Ex.sub Ex.num (Ex.name m0)) (ExL.cons c2 ExL.nil)) (by decide) (by rfl)⟩
  have hhd : (pat (plainP n table) (vals6 places)).den ≠ 0 := (pat (plainP n table) (vals6 places)).den_nz
  refine Sx.ifF ((Tx.cmp (Ex.call (Fn.mvat (toldP n table) (vals7 places) f2.nt f2.at7 (by simp [vals7]; omega)) (ctx.room.mono (by decide)) (ctx.gl (by decide +kernel)) (ExL.cons (Ex.name m10) (ExL.cons ?_ ExL.nil)) (by decide) (by rfl)).c
      (Ex.call (Fn.rat ((pat (plainP n table) (vals6 places)).den - 2 * (pat (plainP n table) (vals6 places)).num) (pat (plainP n table) (vals6 places)).den hhd (f2.sh.den.mono (by decide))) (ctx.room.mono (by decide)) (ctx.gl (by decide +kernel))
        (ExL.cons (Ex.sub (it1 (Ex.name m14)) (Ex.mul Ex.num (it0 (Ex.name m14)) (Sml.mulOk ((show Sml 2 2 by unfold Sml; decide).mono (by decide)) (f2.sh.num.mono (by decide))))) (ExL.cons (it1 (Ex.name m14)) ExL.nil)) (by decide) (by rfl)).c (Cp.neT r0) (by rfl)).cast ?_) Sx.nil ?_
  · refine Ex.cast (Ex.lc places Dt.int (fun p => encR ((p : Int) : Rat)) [("place", none)] ["place"] rfl (Src.list ctx.room.1 (Ex.name m3)) (CompOk.of ctx.names (by decide +kernel)) rfl (by decide +kernel) (HG.bare HG.nil) (fun b hb C Y ic => ?_) (by omega)) (by unfold vals7; rw [List.map_map]; rfl)
    refine ⟨[("place", some (.int b))], TgL.n (ic.lo (by decide +kernel)) s0, ?_⟩
    rw [encR_int]
    exact Ex.tpl (ExL.cons (Ex.name m0) (ExL.cons Ex.num ExL.nil)) (show (2 : Nat) ≤ 1000 by decide)
  · rw [f2.e6]
    simp
  have hlp1000 : (plainP n table).length ≤ sizeLine := by
    have h1 := f2.lp
    have h2 : (1000 : Nat) ≤ sizeLine := by decide
    omega
  -- d
  refine Sx.cons (Es.assign (d := .int (d : Int)) (ctx.ow (by decide +kernel)) (Ex.maxL (l := 0 :: oddT (plainP n table)) ctx.room.1 (ctx.gl (by decide +kernel)) ?_ f2.hd f2.hdm) s15 noΩ (by rfl)) rfl ?_
  · rw [List.map_cons]
    show Ex F _ _ (.list ([Dt.int 0] ++ (oddT (plainP n table)).map .int))
    refine Ex.addL (Ex.lst (ExL.cons Ex.num ExL.nil) (show (1 : Nat) ≤ 1000 by decide)) ?_ ?_
    · refine Ex.cast (Ex.listComp (plainP n table) (fun e => keyD e.1) (fun e => Dt.int e.1.sum) (fun e => decide (e.2.num.fmod 2 = 1)) [("plain", some (.dict (encP (plainP n table)))), ("powers", none)] (keys_encP _) rfl (Src.dict ctx.room.1 (Ex.name m11)) (CompOk.of ctx.names (by decide +kernel))
        (by show List.Nodup [("plain" : Str), "powers"]; decide +kernel) (HG.free m11 (by decide +kernel) (HG.bare HG.nil)) (fun e he C Y ic => ?_) hlp1000) (by unfold oddT; rw [List.map_map]; rfl)
      refine ⟨[("plain", some (.dict (encP (plainP n table)))), ("powers", some (keyD e.1))], TgL.n (ic.lo (by decide +kernel)) s1, TsOk.one (Tx.cast (Tx.cmp (F := cF F _ C) (Ex.mod (it0 (Ex.itemD (F := cF F _ C) (d := encR e.2) (Ex.name m0).c (Ex.name m1) (by rw [encP_lookup, mem_lookup f2.np he]; rfl) r0 (by intro _ _; rfl))) Ex.num (by decide)).c (Ex.num (i := 1)).c Cp.eq (by rfl)) ?_), fun _ => Ex.sumT ctx.room.1 (ic.gl (by decide +kernel)) (Ex.name m1)⟩
      by_cases h : e.2.num.fmod 2 = 1 <;> simp [h]
    · have h1 : (oddT (plainP n table)).length ≤ 1000 := by unfold oddT; rw [List.length_map]; exact Nat.le_trans (List.length_filter_le _ _) f2.lp
      have : (2000 : Nat) ≤ sizeLine := by decide
      simp; omega
  -- most
  refine Sx.cons (Es.assign (d := .int ((0 : Nat) : Int)) (ctx.ow (by decide +kernel)) Ex.num s16 noΩ (by rfl)) rfl ?_
  refine Sx.cons (Es.while (τ := Nat) (σf := fun j => ⟨X, [("script", some (.list (script.map .int))), ("n", some (.int n)), ("table", some (.list (table.map .int))), ("places", some (.list (places.map .int))), ("signs", some (.list ((signsP table).map .int))), ("worths", some (.list ((worthsP n table).map .int))), ("one", some (.dict (encP (oneP n)))), ("letters", some (.list ((List.range n).map fun a => Dt.dict (encP (letP a n))))), ("above", some (.list ((aboveP n).map fun p => .dict (encP p)))), ("below", some (.list ((belowP n).map fun p => .dict (encP p)))), ("told", some (.dict (encP (toldP n table)))), ("plain", some (.dict (encP (plainP n table)))), ("spread", none), ("lot", none), ("half", some (encR (pat (plainP n table) (vals6 places)))), ("d", some (.int (d : Int))), ("most", some (.int ((j : Nat) : Int)))], []⟩) (σ' := (fun j : Nat => (⟨X, [("script", some (.list (script.map .int))), ("n", some (.int n)), ("table", some (.list (table.map .int))), ("places", some (.list (places.map .int))), ("signs", some (.list ((signsP table).map .int))), ("worths", some (.list ((worthsP n table).map .int))), ("one", some (.dict (encP (oneP n)))), ("letters", some (.list ((List.range n).map fun a => Dt.dict (encP (letP a n))))), ("above", some (.list ((aboveP n).map fun p => .dict (encP p)))), ("below", some (.list ((belowP n).map fun p => .dict (encP p)))), ("told", some (.dict (encP (toldP n table)))), ("plain", some (.dict (encP (plainP n table)))), ("spread", none), ("lot", none), ("half", some (encR (pat (plainP n table) (vals6 places)))), ("d", some (.int (d : Int))), ("most", some (.int ((j : Nat) : Int)))], []⟩ : Ix)) m) X (fun _ => rfl) (fun j => j ≤ m) (fun j => m - j) (fun j hj => ?_) 0 (Nat.zero_le _) rfl) rfl ?_
  · have hw2 : ∀ j : Nat, j ≤ 50 → ((2 ^ (j + 1) : Nat) : Int) ≠ 0 := fun j _ => by have := Nat.pow_pos (n := j + 1) (show 0 < 2 by decide); omega
    have hm50 := f2.mb
    have wls : (worthsP n table).length ≤ sizeLine := by omega
    by_cases hjm : j < m
    · refine .inr ⟨?_, j + 1, hjm, by omega, ?_⟩
      · refine Tx.cast (d := decide (oddW (worthsP n table) j = [])) (Tx.cmp (Ex.c (Ex.cast (Ex.listComp (worthsP n table) Dt.int Dt.int (fun x => decide (x.fmod ((2 ^ (j + 1) : Nat) : Int) ≠ 0)) [("most", some (.int ((j : Nat) : Int))), ("worth", none)] rfl rfl (Src.list ctx.room.1 (Ex.name m5)) (CompOk.of ctx.names (by decide +kernel))
        (by show List.Nodup [("most" : Str), "worth"]; decide +kernel) (HG.free m16 (by decide +kernel) (HG.bare HG.nil)) (fun x hx C Y ic => ?_) wls) (show _ = Dt.list ((oddW (worthsP n table) j).map .int) from rfl))) (Ex.c (Ex.lst ExL.nil (show (0 : Nat) ≤ 1000 by decide))) (Cp.eqL (ms := []) r0) (by rfl)) ?_
        · refine ⟨[("most", some (.int ((j : Nat) : Int))), ("worth", some (.int x))], TgL.n (ic.lo (by decide +kernel)) s1, TsOk.one (Tx.cast (Tx.cmp (F := cF F _ C) (Ex.c (Ex.mod (Ex.name m1) (Ex.two (i := j + 1) (Ex.cast (Ex.add (Ex.name m0) Ex.num) (by simp)) (by omega)) (hw2 j (by omega)))) (Ex.c (Ex.num (i := 0))) Cp.ne (by rfl)) ?_), fun _ => Ex.name m1⟩
          generalize x.fmod ((2 ^ (j + 1) : Nat) : Int) = y
          by_cases h : y = 0 <;> simp [h]
        · simpa using f2.hml j hjm
      · have e1 : ((j : Nat) : Int) + 1 = ((j + 1 : Nat) : Int) := by omega
        refine Sx.cons (Es.iadd (ctx.ow (by decide +kernel)) m16 Ex.num s16 noΩ) rfl ?_
        rw [e1]
        exact Sx.nil
    · have hje : j = m := by omega
      subst hje
      refine .inl ⟨?_, rfl⟩
      · refine Tx.cast (d := decide (oddW (worthsP n table) j = [])) (Tx.cmp (Ex.c (Ex.cast (Ex.listComp (worthsP n table) Dt.int Dt.int (fun x => decide (x.fmod ((2 ^ (j + 1) : Nat) : Int) ≠ 0)) [("most", some (.int ((j : Nat) : Int))), ("worth", none)] rfl rfl (Src.list ctx.room.1 (Ex.name m5)) (CompOk.of ctx.names (by decide +kernel))
        (by show List.Nodup [("most" : Str), "worth"]; decide +kernel) (HG.free m16 (by decide +kernel) (HG.bare HG.nil)) (fun x hx C Y ic => ?_) wls) (show _ = Dt.list ((oddW (worthsP n table) j).map .int) from rfl))) (Ex.c (Ex.lst ExL.nil (show (0 : Nat) ≤ 1000 by decide))) (Cp.eqL (ms := []) r0) (by rfl)) ?_
        · refine ⟨[("most", some (.int ((j : Nat) : Int))), ("worth", some (.int x))], TgL.n (ic.lo (by decide +kernel)) s1, TsOk.one (Tx.cast (Tx.cmp (F := cF F _ C) (Ex.c (Ex.mod (Ex.name m1) (Ex.two (i := j + 1) (Ex.cast (Ex.add (Ex.name m0) Ex.num) (by simp)) (by omega)) (hw2 j (by omega)))) (Ex.c (Ex.num (i := 0))) Cp.ne (by rfl)) ?_), fun _ => Ex.name m1⟩
          generalize x.fmod ((2 ^ (j + 1) : Nat) : Int) = y
          by_cases h : y = 0 <;> simp [h]
        · simpa using f2.hm
  -- the inequalities
  refine Sx.ifF (?_ : Tx F _ _ false) Sx.nil ?_
  · by_cases hd0 : 0 < d
    · refine Tx.and_tt ((Tx.cmp (Ex.name m15).c (Ex.num (i := 0)).c Cp.gt (by rfl)).cast (by simpa using hd0)) (Tx.and_ff ?_ (rest := []))
      refine Tx.cast (Tx.cmp (Ex.name m16).c (Ex.floordiv (Ex.sub (Ex.add (Ex.name m1) (Ex.name m15)) (Ex.num (i := 1))) (Ex.name m15) (by omega) ?_).c Cp.lt (by rfl)) ?_
      · have h1 := f2.dn
        exact (show Sml 10 (d : Int) by unfold Sml; rw [Int.natAbs_natCast]; omega).mono (by decide)
      · have h1 := f2.c20 hd0
        have e : ((n : Int) + d - 1).fdiv d = (((n + d - 1) / d : Nat) : Int) := by
          rw [show ((n : Int) + d - 1) = ((n + d - 1 : Nat) : Int) by omega, fdiv_nat]; rfl
        rw [e]
        generalize (n + d - 1) / d = q at h1
        simp only [decide_eq_false_iff_not]
        omega
    · exact Tx.and_ff ((Tx.cmp (Ex.name m15).c (Ex.num (i := 0)).c Cp.gt (by rfl)).cast (by simpa using hd0))
  refine Sx.ifF (?_ : Tx F _ _ false) Sx.nil ?_
  · by_cases hs0 : 0 < table.sum
    · refine Tx.and_tt ((Tx.cmp (Ex.sumL ctx.room.1 (ctx.gl (by decide +kernel)) (Ex.name m2)).c (Ex.num (i := 0)).c Cp.gt (by rfl)).cast (by simpa using hs0)) (Tx.and_ff ?_ (rest := []))
      have h1 := f2.dn
      refine Tx.cast (Tx.cmp (Ex.sumL ctx.room.1 (ctx.gl (by decide +kernel)) (Ex.name m2)).c (Ex.two (i := n - d) (Ex.cast (Ex.sub (Ex.name m1) (Ex.name m15)) (by rw [show ((n : Int) - d) = ((n - d : Nat) : Int) by omega])) (by omega)).c Cp.lt (by rfl)) ?_
      have h2 := f2.c21 hs0
      simp only [decide_eq_false_iff_not]
      omega
    · exact Tx.and_ff ((Tx.cmp (Ex.sumL ctx.room.1 (ctx.gl (by decide +kernel)) (Ex.name m2)).c (Ex.num (i := 0)).c Cp.gt (by rfl)).cast (by simpa using hs0))
  refine Sx.ifF (?_ : Tx F _ _ false) Sx.nil ?_
  · by_cases h4 : n = 4
    · refine Tx.and_tt ((Tx.cmp (Ex.name m1).c (Ex.num (i := 4)).c Cp.eq (by rfl)).cast (by simp; omega)) ?_
      by_cases hd2 : 2 < d
      · refine Tx.and_tt ((Tx.cmp (Ex.name m15).c (Ex.num (i := 2)).c Cp.gt (by rfl)).cast (by simp; omega)) (Tx.and_ff ?_ (rest := []))
        have wls : (worthsP n table).length ≤ sizeLine := by omega
        refine Tx.cast (Tx.cmp (Ex.c (Ex.maxL ctx.room.1 (ctx.gl (by decide +kernel)) (Ex.cast (Ex.lc (worthsP n table) Dt.int (fun x => Dt.int ((x.natAbs : Nat) : Int)) [("worth", none)] ["worth"] rfl (Src.list ctx.room.1 (Ex.name m5)) (CompOk.of ctx.names (by decide +kernel)) rfl (by decide +kernel) (HG.bare HG.nil) (fun x hx C Y ic => ?_) wls)
          (show _ = Dt.list (((worthsP n table).map fun x => ((x.natAbs : Nat) : Int)).map .int) by rw [List.map_map]; rfl)) f2.hx f2.hxm)) (Ex.c (Ex.num (i := 4))) Cp.eq (by rfl)) ?_
        · exact ⟨[("worth", some (.int x))], TgL.n (ic.lo (by decide +kernel)) s0, Ex.abs (ic.gl (by decide +kernel)) (Ex.name m0)⟩
        · simpa using f2.c22 h4 hd2
      · exact Tx.and_ff ((Tx.cmp (Ex.name m15).c (Ex.num (i := 2)).c Cp.gt (by rfl)).cast (by simp; omega))
    · exact Tx.and_ff ((Tx.cmp (Ex.name m1).c (Ex.num (i := 4)).c Cp.eq (by rfl)).cast (by simp; omega))
  refine Sx.ret (Ex.cast (Ex.cmp (Ex.name m15).c (Ex.add (Ex.sub (Ex.name m1) (Ex.name m16)) (Ex.num (i := 1))).c Cp.le (by rfl)) ?_)
  have h1 := f2.c23
  have : (d : Int) ≤ (n : Int) - m + 1 := by omega
  simp [this]
end Mine
end

section
open PySem PySem.W PyProof.Rows PySem.Calls
set_option autoImplicit false
set_option maxRecDepth 100000
namespace Mine

/-- a polynomial as a functional: the sum of g at its keys, by its coefficients -/
noncomputable def I : Poly → (List Int → Rat) → Rat
  | [], _ => 0
  | e :: p, g => g e.1 * e.2 + I p g
noncomputable def ND (p : Poly) : Prop := (p.map (·.1)).Nodup
noncomputable def NZ (p : Poly) : Prop := ∀ e ∈ p, e.2 ≠ 0

theorem I_append (p q : Poly) (g : List Int → Rat) : I (p ++ q) g = I p g + I q g := by
  induction p with
  | nil => simp only [List.nil_append, I]; grind
  | cons e p ih => simp only [List.cons_append, I, ih]; grind
theorem ND.tail {e : List Int × Rat} {p : Poly} (h : ND (e :: p)) : ND p ∧ ∀ x ∈ p, x.1 ≠ e.1 := by
  unfold ND at h
  rw [List.map_cons, List.nodup_cons] at h
  exact ⟨h.2, fun x hx q => h.1 (by rw [← q]; exact List.mem_map.mpr ⟨x, hx, rfl⟩)⟩
theorem I_replace {k : List Int} {t : Rat} {g : List Int → Rat} : ∀ {f : Poly} {r : Rat}, ND f → f.lookup k = some r → I (f.map fun e => if e.1 = k then (e.1, t) else e) g = I f g + g k * (t - r)
  | [], r, _, h => by cases h
  | e :: f, r, hn, h => by
    obtain ⟨h1, h2⟩ := hn.tail
    rw [List.lookup_cons] at h
    by_cases hk : k = e.1
    · subst hk
      rw [beq_self_eq_true] at h
      cases h
      have hm : (f.map fun x => if x.1 = e.1 then (x.1, t) else x) = f := by
        refine (List.map_congr_left fun x hx => ?_).trans (List.map_id' f)
        rw [if_neg (h2 x hx)]
      simp only [List.map_cons, if_true, I, hm]
      grind
    · rw [beq_false_of_ne hk] at h
      have ih := I_replace (k := k) (t := t) (g := g) h1 h
      simp only [List.map_cons, if_neg (Ne.symm hk), I, ih]
      grind
theorem I_put {k : List Int} {t : Rat} {g : List Int → Rat} {f : Poly} (hn : ND f) : I (aput f k t) g = I f g + g k * (t - (f.lookup k).getD 0) := by
  unfold aput
  cases h : f.lookup k with
  | none =>
    rw [Option.isSome_none, if_neg Bool.false_ne_true, I_append]
    simp only [I, Option.getD_none]; grind
  | some r =>
    rw [Option.isSome_some, if_pos rfl, I_replace hn h]
    rfl
theorem I_erase {k : List Int} {g : List Int → Rat} : ∀ {f : Poly}, ND f → I (aerase f k) g = I f g - g k * (f.lookup k).getD 0
  | [], _ => by simp only [aerase, List.filter_nil, I, List.lookup_nil, Option.getD_none]; grind
  | e :: f, hn => by
    obtain ⟨h1, h2⟩ := hn.tail
    have ih := I_erase (k := k) (g := g) h1
    unfold aerase at *
    rw [List.filter_cons, List.lookup_cons]
    by_cases hk : k = e.1
    · subst hk
      have hf : (f.filter fun x => !decide (x.1 = e.1)) = f := List.filter_eq_self.mpr fun x hx => by simp [h2 x hx]
      simp only [decide_true, Bool.not_true, Bool.false_eq_true, if_false, beq_self_eq_true, hf, I, Option.getD_some]
      grind
    · have hk' : e.1 ≠ k := Ne.symm hk
      rw [beq_false_of_ne hk]
      simp only [decide_eq_false hk', Bool.not_false, if_true, I, ih]
      grind
theorem I_addTerm {f : Poly} {k : List Int} {q : Rat} {g : List Int → Rat} (hn : ND f) : I (addTerm f k q) g = I f g + g k * q := by
  unfold addTerm
  cases h : f.lookup k with
  | none =>
    simp only
    split
    · rename_i hq; rw [I_erase hn, h, hq]; simp only [Option.getD_none]; grind
    · rw [I_put hn, h]; simp only [Option.getD_none]; grind
  | some r =>
    simp only
    split
    · rename_i hq; rw [I_erase hn, h]; simp only [Option.getD_some]; grind
    · rw [I_put hn, h]; simp only [Option.getD_some]; grind
theorem addTerm_eq (f : Poly) (k : List Int) (q : Rat) : ∃ t, addTerm f k q = if t = 0 then aerase f k else aput f k t := ⟨_, rfl⟩
theorem ND_addTerm {f : Poly} {k : List Int} {q : Rat} (hn : ND f) : ND (addTerm f k q) := by
  obtain ⟨t, e⟩ := addTerm_eq f k q
  rw [e]
  split
  · exact List.Sublist.nodup (List.Sublist.map _ List.filter_sublist) hn
  · exact aput_keys _ _ _ hn
theorem mem_aput {β : Type} {f : List (List Int × β)} {k : List Int} {t : β} {e : List Int × β} (h : e ∈ aput f k t) : e = (k, t) ∨ e ∈ f := by
  unfold aput at h
  split at h
  · obtain ⟨x, hx, rfl⟩ := List.mem_map.mp h
    split
    · rename_i q; rw [q]; exact .inl rfl
    · exact .inr hx
  · rcases List.mem_append.mp h with h | h
    · exact .inr h
    · exact .inl (List.mem_singleton.mp h)
theorem NZ_addTerm {f : Poly} {k : List Int} {q : Rat} (hn : NZ f) : NZ (addTerm f k q) := by
  obtain ⟨t, e⟩ := addTerm_eq f k q
  rw [e]
  split
  · exact fun e he => hn e (List.mem_filter.mp he).1
  · rename_i ht
    intro e he
    rcases mem_aput he with rfl | he
    · exact ht
    · exact hn e he
theorem keys_addTerm {f : Poly} {k : List Int} {q : Rat} {e : List Int × Rat} (h : e ∈ addTerm f k q) : e.1 = k ∨ ∃ e' ∈ f, e'.1 = e.1 := by
  obtain ⟨t, eq⟩ := addTerm_eq f k q
  rw [eq] at h
  split at h
  · exact .inr ⟨e, (List.mem_filter.mp h).1, rfl⟩
  · rcases mem_aput h with rfl | he
    · exact .inl rfl
    · exact .inr ⟨e, he, rfl⟩
theorem len_addTerm (f : Poly) (k : List Int) (q : Rat) : (addTerm f k q).length ≤ f.length + 1 := by
  obtain ⟨t, e⟩ := addTerm_eq f k q
  rw [e]
  split
  · exact Nat.le_succ_of_le (List.length_filter_le _ _)
  · exact aput_length _ _ _

theorem padd_ind (P : Poly → Prop) (h : ∀ f k q, P f → P (addTerm f k q)) : ∀ (b a : Poly), P a → P (padd a b)
  | [], a, ha => ha
  | e :: b, a, ha => padd_ind P h b _ (h a e.1 e.2 ha)
theorem ND_padd {a : Poly} (b : Poly) (h : ND a) : ND (padd a b) := padd_ind ND (fun _ _ _ h => ND_addTerm h) b a h
theorem NZ_padd {a : Poly} (b : Poly) (h : NZ a) : NZ (padd a b) := padd_ind NZ (fun _ _ _ h => NZ_addTerm h) b a h
theorem I_padd {g : List Int → Rat} : ∀ (b a : Poly), ND a → I (padd a b) g = I a g + I b g
  | [], a, _ => by show I a g = I a g + 0; grind
  | e :: b, a, ha => by
    have ih := I_padd (g := g) b (addTerm a e.1 e.2) (ND_addTerm ha)
    show I (padd (addTerm a e.1 e.2) b) g = _
    rw [ih, I_addTerm ha]
    simp only [I]; grind
theorem len_padd : ∀ (b a : Poly), (padd a b).length ≤ a.length + b.length
  | [], a => by simp [padd]
  | e :: b, a => by
    have h1 := len_padd b (addTerm a e.1 e.2)
    have h2 := len_addTerm a e.1 e.2
    have h3 : padd a (e :: b) = padd (addTerm a e.1 e.2) b := rfl
    rw [h3, List.length_cons]; omega
theorem keys_padd : ∀ (b a : Poly) {e : List Int × Rat}, e ∈ padd a b → (∃ e' ∈ b, e'.1 = e.1) ∨ ∃ e' ∈ a, e'.1 = e.1
  | [], a, e, h => .inr ⟨e, h, rfl⟩
  | x :: b, a, e, h => by
    rcases keys_padd b _ h with ⟨e', h1, h2⟩ | ⟨e', h1, h2⟩
    · exact .inl ⟨e', List.mem_cons_of_mem _ h1, h2⟩
    · rcases keys_addTerm h1 with q | ⟨e'', h3, h4⟩
      · exact .inl ⟨x, List.mem_cons_self, by rw [← h2, q]⟩
      · exact .inr ⟨e'', h3, by rw [h4, h2]⟩

theorem I_map_trm (a : Poly) (eb : List Int × Rat) (g : List Int → Rat) : I (a.map fun ea => trm ea eb) g = I a (fun ka => g (addK ka eb.1)) * eb.2 := by
  induction a with
  | nil => simp only [List.map_nil, I]; grind
  | cons e a ih =>
    simp only [List.map_cons, I]
    rw [ih]
    show g (addK e.1 eb.1) * (e.2 * eb.2) + _ = _
    generalize I a (fun ka => g (addK ka eb.1)) = z
    generalize g (addK e.1 eb.1) = y
    grind
theorem I_trms (a b : Poly) (g : List Int → Rat) : I (trms a b) g = I b fun kb => I a fun ka => g (addK ka kb) := by
  induction b with
  | nil => rfl
  | cons e b ih =>
    have h : trms a (e :: b) = (a.map fun ea => trm ea e) ++ trms a b := by simp [trms]
    rw [h, I_append, ih, I_map_trm]
    rfl
theorem ND_nil : ND [] := List.nodup_nil
theorem NZ_nil : NZ [] := fun _ h => by cases h
theorem I_pmul (a b : Poly) (g : List Int → Rat) : I (pmul a b) g = I b fun kb => I a fun ka => g (addK ka kb) := by
  unfold pmul
  rw [I_padd _ _ ND_nil, I_trms]
  simp only [I]; grind
theorem I_congr {p : Poly} {g g' : List Int → Rat} (h : ∀ e ∈ p, g e.1 = g' e.1) : I p g = I p g' := by
  induction p with
  | nil => rfl
  | cons e p ih =>
    simp only [I]
    rw [h e List.mem_cons_self, ih fun x hx => h x (List.mem_cons_of_mem _ hx)]

/-- one key's coefficient -/
noncomputable def dl (k : List Int) : List Int → Rat := fun k' => if k' = k then 1 else 0
theorem I_dl {k : List Int} : ∀ {p : Poly}, ND p → I p (dl k) = (p.lookup k).getD 0
  | [], _ => rfl
  | e :: p, hn => by
    obtain ⟨h1, h2⟩ := hn.tail
    have ih := I_dl (k := k) h1
    rw [List.lookup_cons]
    simp only [I, dl]
    by_cases hk : k = e.1
    · subst hk
      rw [beq_self_eq_true, if_pos rfl]
      have h0 : I p (dl e.1) = 0 := by
        rw [ih, lookup_none fun hm => ?_]
        · rfl
        · obtain ⟨x, hx, q⟩ := List.mem_map.mp hm
          exact h2 x hx q
      show 1 * e.2 + I p (dl e.1) = e.2
      rw [h0]; grind
    · rw [beq_false_of_ne hk, if_neg (Ne.symm hk)]
      show 0 * e.2 + I p (dl k) = _
      rw [ih]; grind

theorem nodup_le {α : Type} [DecidableEq α] : ∀ {l m : List α}, l.Nodup → (∀ x ∈ l, x ∈ m) → l.length ≤ m.length
  | [], m, _, _ => Nat.zero_le _
  | x :: l, m, hn, h => by
    rw [List.nodup_cons] at hn
    have hx := h x List.mem_cons_self
    have h1 : l.length ≤ (m.erase x).length := nodup_le hn.2 fun y hy => (List.mem_erase_of_ne (fun q => hn.1 (by rw [← q]; exact hy))).mpr (h y (List.mem_cons_of_mem _ hy))
    rw [List.length_erase_of_mem hx] at h1
    have := List.length_pos_of_mem hx
    rw [List.length_cons]; omega
theorem tbEq_of {p q : Poly} (hp : ND p) (hq : ND q) (zp : NZ p) (zq : NZ q) (h : ∀ g, I p g = I q g) : tbEq (tbP p) (tbP q) = true := by
  have one : ∀ {p q : Poly}, ND p → ND q → NZ p → (∀ g, I p g = I q g) → ∀ e ∈ p, q.lookup e.1 = some e.2 := by
    intro p q hp hq zp h e he
    have h1 := h (dl e.1)
    rw [I_dl hp, I_dl hq, mem_lookup hp he] at h1
    cases hl : q.lookup e.1 with
    | none => rw [hl] at h1; exact absurd h1 (zp e he)
    | some r => rw [hl] at h1; exact congrArg _ h1.symm
  have sub : ∀ {p q : Poly}, (∀ e ∈ p, q.lookup e.1 = some e.2) → ∀ k ∈ p.map (·.1), k ∈ q.map (·.1) := by
    intro p q h k hk
    obtain ⟨e, he, rfl⟩ := List.mem_map.mp hk
    refine Classical.byContradiction fun hn => ?_
    have := h e he
    rw [lookup_none hn] at this; cases this
  have o1 := one hp hq zp h
  have o2 := one hq hp zq fun g => (h g).symm
  have l1 := nodup_le hp (sub o1)
  have l2 := nodup_le hq (sub o2)
  simp only [List.length_map] at l1 l2
  unfold tbEq tbP
  rw [Bool.and_eq_true]
  refine ⟨by simp; omega, ?_⟩
  rw [List.all_map, List.all_eq_true]
  intro e he
  have := lookup_map (fun q : Rat => [q.num, (q.den : Int)]) q e.1
  simp only [Function.comp]
  rw [this, o1 e he]
  simp
end Mine
end

section
open PySem PySem.W PyProof.Rows PySem.Calls
set_option autoImplicit false
set_option maxRecDepth 100000
namespace Mine

/-! ## sizes: z / 2^j with |z| ≤ M -/
noncomputable def Dy (j M : Nat) (q : Rat) : Prop := ∃ z : Int, q = mkRat z (2 ^ j) ∧ z.natAbs ≤ M
theorem p2ne (j : Nat) : 2 ^ j ≠ 0 := Nat.ne_of_gt (Nat.pow_pos (by decide))
theorem Dy.mono {j M M' : Nat} {q : Rat} (h : Dy j M q) (hM : M ≤ M') : Dy j M' q := let ⟨z, h1, h2⟩ := h; ⟨z, h1, Nat.le_trans h2 hM⟩
theorem Dy.sm {j M : Nat} {q : Rat} (h : Dy j M q) (hj : j ≤ 200) (hM : M ≤ 2 ^ 200) : SmR 4000 q := by
  obtain ⟨z, rfl, hz⟩ := h
  obtain ⟨e1, e2⟩ := rat_parts z (2 ^ j) (p2ne j)
  have hlt : (2 : Nat) ^ 200 < 2 ^ 4000 := Nat.pow_lt_pow_right (by decide) (by decide)
  refine ⟨?_, ?_⟩
  · unfold Sml
    rw [e1, Int.natAbs_ediv_of_dvd (by exact Int.gcd_dvd_left ..)]
    exact Nat.lt_of_le_of_lt (Nat.div_le_self _ _) (Nat.lt_of_le_of_lt (Nat.le_trans hz hM) hlt)
  · unfold Sml
    rw [e2, ← Int.natCast_ediv, Int.natAbs_natCast]
    exact Nat.lt_of_le_of_lt (Nat.div_le_self _ _) (Nat.lt_of_le_of_lt (Nat.pow_le_pow_right (by decide) hj) hlt)
theorem Dy.add {j M M' : Nat} {q r : Rat} (h : Dy j M q) (h' : Dy j M' r) : Dy j (M + M') (q + r) := by
  obtain ⟨z, rfl, hz⟩ := h
  obtain ⟨y, rfl, hy⟩ := h'
  refine ⟨z + y, ?_, by omega⟩
  rw [Rat.mkRat_eq_div, Rat.mkRat_eq_div, Rat.mkRat_eq_div, Rat.intCast_add]
  grind
theorem Dy.mul {j j' M M' : Nat} {q r : Rat} (h : Dy j M q) (h' : Dy j' M' r) : Dy (j + j') (M * M') (q * r) := by
  obtain ⟨z, rfl, hz⟩ := h
  obtain ⟨y, rfl, hy⟩ := h'
  refine ⟨z * y, ?_, ?_⟩
  · rw [Rat.mkRat_mul_mkRat, Nat.pow_add]
  · rw [Int.natAbs_mul]; exact Nat.mul_le_mul hz hy
theorem Dy.int (z : Int) : Dy 0 z.natAbs (z : Rat) := ⟨z, by rw [Rat.mkRat_eq_div]; simp; grind, Nat.le_refl _⟩
theorem Dy.up {j M : Nat} {q : Rat} (h : Dy j M q) (i : Nat) : Dy (j + i) (M * 2 ^ i) q := by
  obtain ⟨z, rfl, hz⟩ := h
  refine ⟨z * (2 ^ i : Nat), ?_, ?_⟩
  · rw [Nat.pow_add, Rat.mkRat_mul_right (p2ne i)]
  · rw [Int.natAbs_mul, Int.natAbs_natCast]; exact Nat.mul_le_mul_right _ hz
theorem Dy.neg {j M : Nat} {q : Rat} (h : Dy j M q) : Dy j M (-q) := by
  obtain ⟨z, rfl, hz⟩ := h
  refine ⟨-z, ?_, by rw [Int.natAbs_neg]; exact hz⟩
  rw [Rat.mkRat_eq_div, Rat.mkRat_eq_div, Rat.intCast_neg]
  grind

noncomputable def DyP (j M : Nat) (p : Poly) : Prop := ∀ e ∈ p, Dy j M e.2
theorem DyP.mono {j M M' : Nat} {p : Poly} (h : DyP j M p) (hM : M ≤ M') : DyP j M' p := fun e he => (h e he).mono hM
theorem lookup_mem {β : Type} {l : List (List Int × β)} {k : List Int} {r : β} (h : l.lookup k = some r) : (k, r) ∈ l := by
  induction l with
  | nil => cases h
  | cons e l ih =>
    rw [List.lookup_cons] at h
    by_cases hk : k = e.1
    · subst hk
      rw [beq_self_eq_true] at h; cases h
      exact List.mem_cons_self
    · rw [beq_false_of_ne hk] at h
      exact List.mem_cons_of_mem _ (ih h)
theorem DyP.addTerm {j M M' : Nat} {f : Poly} {k : List Int} {q : Rat} (h : DyP j M f) (hq : Dy j M' q) : DyP j (M + M') (addTerm f k q) := by
  intro e he
  generalize ht : (match f.lookup k with | some r => r + q | none => q) = t
  have hat : Mine.addTerm f k q = if t = 0 then aerase f k else aput f k t := by rw [← ht]; rfl
  rw [hat] at he
  have hd : Dy j (M + M') t := by
    cases hl : f.lookup k with
    | none => rw [hl] at ht; subst ht; exact hq.mono (by omega)
    | some r => rw [hl] at ht; subst ht; exact (h _ (lookup_mem hl)).add hq
  split at he
  · exact (h e (List.mem_filter.mp he).1).mono (by omega)
  · rcases mem_aput he with rfl | he
    · exact hd
    · exact (h e he).mono (by omega)
theorem DyP.padd {j M' : Nat} : ∀ (b : Poly) {a : Poly} {M : Nat}, DyP j M a → DyP j M' b → DyP j (M + b.length * M') (padd a b)
  | [], a, M, ha, _ => by show DyP j (M + 0 * M') a; simpa using ha
  | e :: b, a, M, ha, hb => by
    have h1 := DyP.padd b (DyP.addTerm (k := e.1) ha (hb e List.mem_cons_self)) fun x hx => hb x (List.mem_cons_of_mem _ hx)
    have h2 : Mine.padd a (e :: b) = Mine.padd (Mine.addTerm a e.1 e.2) b := rfl
    rw [h2]
    refine h1.mono ?_
    rw [List.length_cons, Nat.succ_mul]; omega
theorem trms_mem {a b : Poly} {e : List Int × Rat} (h : e ∈ trms a b) : ∃ ea ∈ a, ∃ eb ∈ b, e = trm ea eb := by
  unfold trms at h
  obtain ⟨eb, hb, h⟩ := List.mem_flatMap.mp h
  obtain ⟨ea, ha, rfl⟩ := List.mem_map.mp h
  exact ⟨ea, ha, eb, hb, rfl⟩
theorem DyP.trms {j j' M M' : Nat} {a b : Poly} (ha : DyP j M a) (hb : DyP j' M' b) : DyP (j + j') (M * M') (trms a b) := fun e he => by
  obtain ⟨ea, h1, eb, h2, rfl⟩ := trms_mem he
  exact (ha ea h1).mul (hb eb h2)
theorem trms_length (a b : Poly) : (trms a b).length = a.length * b.length := by
  induction b with
  | nil => rfl
  | cons e b ih =>
    have h : trms a (e :: b) = (a.map fun ea => trm ea e) ++ trms a b := by simp [trms]
    rw [h, List.length_append, List.length_map, ih, List.length_cons, Nat.mul_succ]; omega

theorem AddOk.of {j M M' : Nat} {a b : Poly} (ha : DyP j M a) (hb : DyP j M' b) (hl : a.length + b.length ≤ 1000) (hj : j ≤ 200) (hM : M + b.length * M' ≤ 2 ^ 200) (hM' : M' ≤ 2 ^ 200) : AddOk a b := by
  intro pre e post hpre
  have hbm : ∀ x ∈ pre, x ∈ b := fun x hx => by rw [hpre]; simp [hx]
  have hpl : pre.length ≤ b.length := by rw [hpre]; simp
  have hp := DyP.padd (M' := M') pre ha fun x hx => hb x (hbm x hx)
  refine ⟨(hb e (by rw [hpre]; simp)).sm hj hM', fun r hr => ((hp _ (lookup_mem hr)).mono ?_).sm hj hM, ?_⟩
  · have := Nat.mul_le_mul_right M' hpl; omega
  · have := len_padd pre a; omega
theorem DyP.nil {j M : Nat} : DyP j M [] := fun _ h => by cases h
theorem MulOk.of {j j' M M' n : Nat} {a b : Poly} (na : ND a) (nb : ND b) (ka : ∀ e ∈ a, e.1.length = n) (kb : ∀ e ∈ b, e.1.length = n) (ha : DyP j M a) (hb : DyP j' M' b) (hl : a.length * b.length ≤ 1000) (hj : j + j' ≤ 200)
    (hM : M ≤ 2 ^ 90) (hM' : M' ≤ 2 ^ 90) : MulOk a b n where
  na := na
  nb := nb
  ka := ka
  kb := kb
  sa := fun e he => (ha e he).sm (by omega) (Nat.le_trans hM (Nat.pow_le_pow_right (by decide) (by decide)))
  sb := fun e he => (hb e he).sm (by omega) (Nat.le_trans hM' (Nat.pow_le_pow_right (by decide) (by decide)))
  ok := by
    have h1 : M * M' ≤ 2 ^ 180 := Nat.le_trans (Nat.mul_le_mul hM hM') (by rw [← Nat.pow_add]; exact Nat.le_refl _)
    have h2 : (1000 : Nat) ≤ 2 ^ 10 := by decide
    refine AddOk.of (j := j + j') (M := 0) (M' := M * M') DyP.nil (ha.trms hb) (by rw [trms_length]; simpa using hl) hj ?_ (Nat.le_trans h1 (Nat.pow_le_pow_right (by decide) (by decide)))
    rw [Nat.zero_add, trms_length]
    refine Nat.le_trans (Nat.mul_le_mul (Nat.le_trans hl h2) h1) ?_
    rw [← Nat.pow_add]
    exact Nat.pow_le_pow_right (by decide) (by decide)
end Mine
end

section
open PySem PySem.W PyProof.Rows PySem.Calls
set_option autoImplicit false
set_option maxRecDepth 100000
namespace Mine

/-! ## keys of bits -/
theorem k_add (n : Nat) (hn : 2 ≤ n ∧ n ≤ 4) : ∀ a < n, ∀ u < 2 ^ a, addK (zeroK n) (bitsK u n) = bitsK u n ∧ addK (unitK a n) (bitsK u n) = bitsK (u + 2 ^ a) n := by
  obtain rfl | rfl | rfl : n = 2 ∨ n = 3 ∨ n = 4 := by omega
  all_goals decide +kernel
theorem k_zero (n : Nat) (hn : 2 ≤ n ∧ n ≤ 4) : zeroK n = bitsK 0 n := by
  obtain rfl | rfl | rfl : n = 2 ∨ n = 3 ∨ n = 4 := by omega
  all_goals decide +kernel
theorem k_nodup (n : Nat) (hn : 2 ≤ n ∧ n ≤ 4) : (rowsK n).Nodup := by
  obtain rfl | rfl | rfl : n = 2 ∨ n = 3 ∨ n = 4 := by omega
  all_goals decide +kernel
theorem bits_len (u n : Nat) : (bitsK u n).length = n := by simp [bitsK]
theorem zero_len (n : Nat) : (zeroK n).length = n := by simp [zeroK]
theorem unit_len (a n : Nat) : (unitK a n).length = n := by simp [unitK]
theorem k_hash (prog : Program) (w : World) (n : Nat) (hn : 2 ≤ n ∧ n ≤ 4) : ((rowsK n).map fun k => tupleKeyHash (intKind prog w) k).Nodup := by
  obtain rfl | rfl | rfl : n = 2 ∨ n = 3 ∨ n = 4 := by omega
  · exact of_decide_eq_true (by kernel_rfl)
  · exact of_decide_eq_true (by kernel_rfl)
  · exact of_decide_eq_true (by kernel_rfl)
theorem inj_of_nodup {α β : Type} {f : α → β} : ∀ {l : List α}, (l.map f).Nodup → ∀ x ∈ l, ∀ y ∈ l, f x = f y → x = y
  | [], _, x, hx, _, _, _ => by cases hx
  | z :: l, h, x, hx, y, hy, e => by
    rw [List.map_cons, List.nodup_cons] at h
    rcases List.mem_cons.mp hx with e1 | hx'
    · rcases List.mem_cons.mp hy with e2 | hy'
      · rw [e1, e2]
      · exact absurd (show f z ∈ l.map f from List.mem_map.mpr ⟨y, hy', by rw [← e, e1]⟩) h.1
    · rcases List.mem_cons.mp hy with e2 | hy'
      · exact absurd (show f z ∈ l.map f from List.mem_map.mpr ⟨x, hx', by rw [e, e2]⟩) h.1
      · exact inj_of_nodup h.2 x hx' y hy' e
theorem nodup_map {α β : Type} {f : α → β} : ∀ {l : List α}, l.Nodup → (∀ x ∈ l, ∀ y ∈ l, f x = f y → x = y) → (l.map f).Nodup
  | [], _, _ => List.nodup_nil
  | z :: l, h, hi => by
    rw [List.nodup_cons] at h
    rw [List.map_cons, List.nodup_cons]
    refine ⟨fun hm => ?_, nodup_map h.2 fun x hx y hy => hi x (List.mem_cons_of_mem _ hx) y (List.mem_cons_of_mem _ hy)⟩
    obtain ⟨y, hy, e⟩ := List.mem_map.mp hm
    have := hi y (List.mem_cons_of_mem _ hy) z List.mem_cons_self e
    exact h.1 (this ▸ hy)
theorem hashOk_of (prog : Program) (w : World) {n : Nat} (hn : 2 ≤ n ∧ n ≤ 4) {p : Poly} (hp : ND p) (hk : ∀ e ∈ p, e.1 ∈ rowsK n) : HashOk prog w p := by
  have h1 := nodup_map (f := fun k => tupleKeyHash (intKind prog w) k) (l := p.map (fun e => e.1)) (show (p.map fun e => e.1).Nodup from hp) fun x hx y hy e => by
    obtain ⟨ex, hx', rfl⟩ := List.mem_map.mp hx
    obtain ⟨ey, hy', rfl⟩ := List.mem_map.mp hy
    exact inj_of_nodup (k_hash prog w n hn) _ (hk ex hx') _ (hk ey hy') e
  rw [List.map_map] at h1
  exact h1

/-! ## a list of numbers as a functional -/
noncomputable def Ls (n : Nat) : Nat → List Rat → (List Int → Rat) → Rat
  | _, [], _ => 0
  | s, c :: cs, g => g (bitsK s n) * c + Ls n (s + 1) cs g
theorem Ls_append (n : Nat) (g : List Int → Rat) : ∀ (c d : List Rat) (s : Nat), Ls n s (c ++ d) g = Ls n s c g + Ls n (s + c.length) d g
  | [], d, s => by simp only [List.nil_append, Ls, List.length_nil, Nat.add_zero]; grind
  | x :: c, d, s => by
    simp only [List.cons_append, Ls, List.length_cons]
    rw [Ls_append n g c d (s + 1), show s + 1 + c.length = s + (c.length + 1) by omega]
    grind
noncomputable def comb (x y : Rat) (c d : List Rat) : List Rat := List.zipWith (fun p q => x * p + y * q) c d
theorem Ls_comb (n : Nat) (g : List Int → Rat) (x y : Rat) : ∀ (c d : List Rat) (s : Nat), c.length = d.length → Ls n s (comb x y c d) g = x * Ls n s c g + y * Ls n s d g
  | [], [], s, _ => by show (0 : Rat) = x * 0 + y * 0; grind
  | p :: c, q :: d, s, h => by
    have ih := Ls_comb n g x y c d (s + 1) (by simpa using h)
    show g (bitsK s n) * (x * p + y * q) + Ls n (s + 1) (comb x y c d) g = _
    rw [ih]
    simp only [Ls]
    grind
  | [], _ :: _, _, h => by simp at h
  | _ :: _, [], _, h => by simp at h
theorem Ls_shift (n : Nat) (g g' : List Int → Rat) (k : Nat) : ∀ (c : List Rat) (s : Nat), (∀ u, s ≤ u → u < s + c.length → g' (bitsK u n) = g (bitsK (u + k) n)) → Ls n s c g' = Ls n (s + k) c g
  | [], s, _ => rfl
  | x :: c, s, h => by
    simp only [Ls]
    rw [h s (Nat.le_refl _) (by simp), Ls_shift n g g' k c (s + 1) fun u h1 h2 => h u (by omega) (by simp; omega), show s + 1 + k = s + k + 1 by omega]

/-- the coefficients, by splitting at the top bit -/
noncomputable def cfP (al bl ah bh : Rat) : Nat → List Int → List Rat
  | 0, t => [(t.getD 0 0 : Rat)]
  | a + 1, t => comb al ah (cfP al bl ah bh a (t.take (2 ^ a))) (cfP al bl ah bh a (t.drop (2 ^ a))) ++ comb bl bh (cfP al bl ah bh a (t.take (2 ^ a))) (cfP al bl ah bh a (t.drop (2 ^ a)))
theorem cfP_length (al bl ah bh : Rat) : ∀ (a : Nat) (t : List Int), (cfP al bl ah bh a t).length = 2 ^ a
  | 0, t => rfl
  | a + 1, t => by
    simp only [cfP, comb, List.length_append, List.length_zipWith, cfP_length al bl ah bh a]
    rw [Nat.pow_succ]; omega

structure HRep (n a : Nat) (p : Poly) (c : List Rat) : Prop where
  nd : ND p
  nz : NZ p
  keys : ∀ e ∈ p, ∃ u < 2 ^ a, e.1 = bitsK u n
  len : p.length ≤ 2 ^ a
  dy : DyP a (2 ^ (10 * a)) p
  fn : ∀ g, I p g = Ls n 0 c g

/-- a factor: α where the letter a is not, β where it is -/
structure Fac (n a : Nat) (f : Poly) (α β : Rat) : Prop where
  nd : ND f
  len : f.length ≤ 2
  keys : ∀ e ∈ f, e.1 = zeroK n ∨ e.1 = unitK a n
  dy : DyP 1 2 f
  fn : ∀ g, I f g = α * g (zeroK n) + β * g (unitK a n)

theorem len_of_keys {n a : Nat} {p : Poly} (hn : 2 ≤ n ∧ n ≤ 4) (ha : a ≤ n) (hp : ND p) (hk : ∀ e ∈ p, ∃ u < 2 ^ a, e.1 = bitsK u n) : p.length ≤ 2 ^ a := by
  have h := nodup_le (l := p.map (·.1)) (m := (List.range (2 ^ a)).map fun u => bitsK u n) hp fun k hk' => by
    obtain ⟨e, he, rfl⟩ := List.mem_map.mp hk'
    obtain ⟨u, hu, e1⟩ := hk e he
    rw [e1]; exact List.mem_map.mpr ⟨u, List.mem_range.mpr hu, rfl⟩
  simpa using h
end Mine
end

section
open PySem PySem.W PyProof.Rows PySem.Calls
set_option autoImplicit false
set_option maxRecDepth 100000
namespace Mine

theorem I_lin (α β : Rat) (g g' : List Int → Rat) (p : Poly) : I p (fun k => α * g k + β * g' k) = α * I p g + β * I p g' := by
  induction p with
  | nil => show (0 : Rat) = α * 0 + β * 0; grind
  | cons e p ih =>
    simp only [I]
    rw [ih]
    grind

structure PRep (n a : Nat) (p : Poly) (α β : Rat) (c : List Rat) : Prop where
  nd : ND p
  nz : NZ p
  keys : ∀ e ∈ p, ∃ u < 2 ^ (a + 1), e.1 = bitsK u n
  dy : DyP (a + 1) (32 * 2 ^ (10 * a)) p
  fn : ∀ g, I p g = α * Ls n 0 c g + β * Ls n (2 ^ a) c g

theorem pow_le8 {a : Nat} (h : a < 4) : 2 ^ a ≤ 8 := Nat.le_trans (Nat.pow_le_pow_right (n := 2) (by decide) (show a ≤ 3 by omega)) (by decide)

theorem prod_rep {n a : Nat} (hn : 2 ≤ n ∧ n ≤ 4) (ha : a < n) {f q : Poly} {α β : Rat} {c : List Rat} (hf : Fac n a f α β) (hq : HRep n a q c) (hc : c.length = 2 ^ a) : PRep n a (pmul f q) α β c ∧ MulOk f q n := by
  have h8 := pow_le8 (a := a) (by omega)
  have hlen : f.length * q.length ≤ 2 * 2 ^ a := Nat.mul_le_mul hf.len hq.len
  have hfl : ∀ e ∈ f, e.1.length = n := fun e he => by rcases hf.keys e he with q | q <;> rw [q]; exact zero_len n; exact unit_len a n
  have hql : ∀ e ∈ q, e.1.length = n := fun e he => by obtain ⟨u, _, e1⟩ := hq.keys e he; rw [e1]; exact bits_len u n
  have e2 : 2 ^ (a + 1) = 2 ^ a + 2 ^ a := by rw [Nat.pow_succ]; omega
  refine ⟨⟨ND_padd _ ND_nil, NZ_padd _ NZ_nil, fun e he => ?_, ?_, fun g => ?_⟩, ?_⟩
  · rcases keys_padd _ _ he with ⟨e', h1, h2⟩ | ⟨e', h1, _⟩
    · obtain ⟨ea, hea, eb, heb, rfl⟩ := trms_mem h1
      obtain ⟨u, hu, e1⟩ := hq.keys eb heb
      obtain ⟨k1, k2⟩ := k_add n hn a ha u hu
      rcases hf.keys ea hea with q | q
      · exact ⟨u, by omega, by rw [← h2]; show addK ea.1 eb.1 = _; rw [q, e1, k1]⟩
      · exact ⟨u + 2 ^ a, by omega, by rw [← h2]; show addK ea.1 eb.1 = _; rw [q, e1, k2]⟩
    · cases h1
  · have h1 := DyP.padd (M := 0) (M' := 2 * 2 ^ (10 * a)) (trms f q) DyP.nil (by have := hf.dy.trms hq.dy; rwa [Nat.add_comm 1 a] at this)
    refine h1.mono ?_
    rw [trms_length, Nat.zero_add]
    refine Nat.le_trans (Nat.mul_le_mul_right _ (Nat.le_trans hlen (Nat.mul_le_mul_left 2 h8))) ?_
    omega
  · have hcg : (I q fun kb => I f fun ka => g (addK ka kb)) = I q fun kb => α * g kb + β * (fun k => g (addK (unitK a n) k)) kb := I_congr fun e he => by
      obtain ⟨u, hu, e1⟩ := hq.keys e he
      obtain ⟨k1, _⟩ := k_add n hn a ha u hu
      show (I f fun ka => g (addK ka e.1)) = α * g e.1 + β * g (addK (unitK a n) e.1)
      rw [hf.fn, e1, k1]
    have hsh := Ls_shift n g (fun k => g (addK (unitK a n) k)) (2 ^ a) c 0 fun u _ hu => by
      rw [hc, Nat.zero_add] at hu
      show g (addK (unitK a n) (bitsK u n)) = _
      rw [(k_add n hn a ha u hu).2]
    rw [I_pmul, hcg, I_lin, hq.fn, hq.fn, hsh, Nat.zero_add]
  · refine MulOk.of (j := 1) (j' := a) (M := 2) (M' := 2 ^ (10 * a)) hf.nd hq.nd hfl hql hf.dy hq.dy (by omega) (by omega) (by decide) (Nat.pow_le_pow_right (by decide) (by omega))

theorem sum_rep (prog : Program) (w : World) {n a : Nat} (hn : 2 ≤ n ∧ n ≤ 4) (ha : a < n) {p q : Poly} {al bl ah bh : Rat} {c d : List Rat} (hp : PRep n a p al bl c) (hq : PRep n a q ah bh d) (hc : c.length = 2 ^ a) (hd : d.length = 2 ^ a) :
    HRep n (a + 1) (padd p q) (comb al ah c d ++ comb bl bh c d) ∧ SumOk prog w p q := by
  have h8 := pow_le8 (a := a) (by omega)
  have e2 : 2 ^ (a + 1) = 2 ^ a + 2 ^ a := by rw [Nat.pow_succ]; omega
  have lp := len_of_keys hn (show a + 1 ≤ n by omega) hp.nd hp.keys
  have lq := len_of_keys hn (show a + 1 ≤ n by omega) hq.nd hq.keys
  have hkeys : ∀ e ∈ padd p q, ∃ u < 2 ^ (a + 1), e.1 = bitsK u n := fun e he => by
    rcases keys_padd _ _ he with ⟨e', h1, h2⟩ | ⟨e', h1, h2⟩
    · rw [← h2]; exact hq.keys e' h1
    · rw [← h2]; exact hp.keys e' h1
  have hnd : ND (padd p q) := ND_padd _ hp.nd
  have hpw : 2 ^ (10 * (a + 1)) = 1024 * 2 ^ (10 * a) := by rw [Nat.mul_add, Nat.pow_add]; omega
  refine ⟨⟨hnd, NZ_padd _ hp.nz, hkeys, len_of_keys hn (by omega) hnd hkeys, ?_, fun g => ?_⟩, hq.nd, ?_, by omega, hashOk_of prog w hn hp.nd fun e he => ?_⟩
  · refine (DyP.padd q hp.dy hq.dy).mono ?_
    rw [hpw]
    have h1 : q.length * (32 * 2 ^ (10 * a)) ≤ 16 * (32 * 2 ^ (10 * a)) := Nat.mul_le_mul_right _ (by omega)
    omega
  · rw [I_padd _ _ hp.nd, hp.fn, hq.fn, Ls_append, Ls_comb n g al ah c d 0 (by omega), Ls_comb n g bl bh c d _ (by omega)]
    have hl : (comb al ah c d).length = 2 ^ a := by simp [comb, hc, hd]
    rw [hl, Nat.zero_add]
    grind
  · have h40 : 2 ^ (10 * a) ≤ 2 ^ 30 := Nat.pow_le_pow_right (by decide) (by omega)
    have h1 : q.length * (32 * 2 ^ (10 * a)) ≤ 16 * (32 * 2 ^ 30) := Nat.mul_le_mul (by omega) (by omega)
    have h2 : (17 * (32 * 2 ^ 30) : Nat) ≤ 2 ^ 200 := by decide
    refine AddOk.of hp.dy hq.dy (by omega) (by omega) (Nat.le_trans ?_ h2) (Nat.le_trans ?_ h2) <;> omega
  · obtain ⟨u, hu, e1⟩ := hp.keys e he
    rw [e1]
    have : 2 ^ (a + 1) ≤ 2 ^ n := Nat.pow_le_pow_right (by decide) (by omega)
    exact List.mem_map.mpr ⟨u, List.mem_range.mpr (by omega), rfl⟩

theorem halves_rep (prog : Program) (w : World) {n : Nat} (hn : 2 ≤ n ∧ n ≤ 4) {low high : List Poly} {al bl ah bh : Rat} (hl : ∀ a < n, Fac n a (low.getD a []) al bl) (hh : ∀ a < n, Fac n a (high.getD a []) ah bh) : ∀ (a : Nat) (t : List Int), a ≤ n → t.length = 2 ^ a → (∀ x ∈ t, x.natAbs ≤ 1) →
    HOk prog w low high n a t ∧ HRep n a (halvesP low high n a t) (cfP al bl ah bh a t)
  | 0, t, _, ht, h1 => by
    refine ⟨trivial, ?_⟩
    have hx : (t.getD 0 0).natAbs ≤ 1 := by
      cases t with
      | nil => decide
      | cons x t => exact h1 x List.mem_cons_self
    show HRep n 0 (if (t.getD 0 0 : Rat) = 0 then [] else [(zeroK n, (t.getD 0 0 : Rat))]) [(t.getD 0 0 : Rat)]
    generalize t.getD 0 0 = x at *
    have hd : Dy 0 1 (x : Rat) := (Dy.int x).mono hx
    have hz := k_zero n hn
    by_cases h0 : (x : Rat) = 0
    · rw [if_pos h0]
      exact ⟨ND_nil, NZ_nil, fun _ h => (by cases h), Nat.zero_le _, DyP.nil, fun g => by show (0 : Rat) = g (bitsK 0 n) * x + 0; rw [h0]; grind⟩
    · rw [if_neg h0]
      refine ⟨by simp [ND], fun e he => ?_, fun e he => ?_, by simp, fun e he => ?_, fun g => ?_⟩
      · obtain rfl := List.mem_singleton.mp he; exact h0
      · obtain rfl := List.mem_singleton.mp he; exact ⟨0, by decide, hz⟩
      · obtain rfl := List.mem_singleton.mp he; exact hd
      · show g (zeroK n) * x + 0 = g (bitsK 0 n) * x + 0; rw [hz]
  | a + 1, t, ha, ht, h1 => by
    have e2 : 2 ^ (a + 1) = 2 ^ a + 2 ^ a := by rw [Nat.pow_succ]; omega
    obtain ⟨o1, r1⟩ := halves_rep prog w hn hl hh a (t.take (2 ^ a)) (by omega) (by rw [List.length_take]; omega) fun x hx => h1 x (List.mem_of_mem_take hx)
    obtain ⟨o2, r2⟩ := halves_rep prog w hn hl hh a (t.drop (2 ^ a)) (by omega) (by rw [List.length_drop]; omega) fun x hx => h1 x (List.mem_of_mem_drop hx)
    obtain ⟨p1, m1⟩ := prod_rep hn (by omega) (hl a (by omega)) r1 (cfP_length ..)
    obtain ⟨p2, m2⟩ := prod_rep hn (by omega) (hh a (by omega)) r2 (cfP_length ..)
    obtain ⟨s1, s2⟩ := sum_rep prog w hn (by omega) p1 p2 (cfP_length ..) (cfP_length ..)
    exact ⟨⟨o1, o2, m1, m2, s2⟩, s1⟩
end Mine
end

section
open PySem PySem.W PyProof.Rows PySem.Calls
set_option autoImplicit false
set_option maxRecDepth 100000
namespace Mine

theorem k_ne (n : Nat) (hn : 2 ≤ n ∧ n ≤ 4) : ∀ a < n, zeroK n ≠ unitK a n := by
  obtain rfl | rfl | rfl : n = 2 ∨ n = 3 ∨ n = 4 := by omega
  all_goals decide +kernel
theorem above_eq (n : Nat) (hn : 2 ≤ n ∧ n ≤ 4) : ∀ a < n, (aboveP n).getD a [] = [(zeroK n, halfQ), (unitK a n, halfQ)] := by
  obtain rfl | rfl | rfl : n = 2 ∨ n = 3 ∨ n = 4 := by omega
  all_goals decide +kernel
theorem below_eq (n : Nat) (hn : 2 ≤ n ∧ n ≤ 4) : ∀ a < n, (belowP n).getD a [] = [(zeroK n, halfQ), (unitK a n, -halfQ)] := by
  obtain rfl | rfl | rfl : n = 2 ∨ n = 3 ∨ n = 4 := by omega
  all_goals decide +kernel
theorem less_eq (n : Nat) (hn : 2 ≤ n ∧ n ≤ 4) : ∀ a < n, (lessP n).getD a [] = [(zeroK n, 1), (unitK a n, -1)] := by
  obtain rfl | rfl | rfl : n = 2 ∨ n = 3 ∨ n = 4 := by omega
  all_goals decide +kernel
theorem letters_eq (n : Nat) (hn : 2 ≤ n ∧ n ≤ 4) : ∀ a < n, (lettersP n).getD a [] = [(unitK a n, 1)] := by
  obtain rfl | rfl | rfl : n = 2 ∨ n = 3 ∨ n = 4 := by omega
  all_goals decide +kernel

theorem dy_half : Dy 1 2 halfQ := ⟨1, by decide +kernel, by decide⟩
theorem dy_nhalf : Dy 1 2 (-halfQ) := ⟨-1, by decide +kernel, by decide⟩
theorem dy_one : Dy 1 2 1 := ⟨2, by decide +kernel, by decide⟩
theorem dy_none : Dy 1 2 (-1) := ⟨-2, by decide +kernel, by decide⟩
theorem fac2 {n a : Nat} {α β : Rat} (hz : zeroK n ≠ unitK a n) (hα : Dy 1 2 α) (hβ : Dy 1 2 β) : Fac n a [(zeroK n, α), (unitK a n, β)] α β where
  nd := by simp [ND, hz]
  len := by simp
  keys := fun e he => by
    rcases List.mem_cons.mp he with rfl | he
    · exact .inl rfl
    · obtain rfl := List.mem_singleton.mp he; exact .inr rfl
  dy := fun e he => by
    rcases List.mem_cons.mp he with rfl | he
    · exact hα
    · obtain rfl := List.mem_singleton.mp he; exact hβ
  fn := fun g => by
    show g (zeroK n) * α + (g (unitK a n) * β + 0) = _
    grind
theorem fac1 {n a : Nat} {β : Rat} (hβ : Dy 1 2 β) : Fac n a [(unitK a n, β)] 0 β where
  nd := by simp [ND]
  len := by simp
  keys := fun e he => by obtain rfl := List.mem_singleton.mp he; exact .inr rfl
  dy := fun e he => by obtain rfl := List.mem_singleton.mp he; exact hβ
  fn := fun g => by
    show g (unitK a n) * β + 0 = _
    grind

theorem told_rep (prog : Program) (w : World) {n : Nat} (hn : 2 ≤ n ∧ n ≤ 4) {t : List Int} (ht : t.length = 2 ^ n) (h1 : ∀ x ∈ t, x.natAbs ≤ 1) :
    HOk prog w (aboveP n) (belowP n) n n t ∧ HRep n n (halvesP (aboveP n) (belowP n) n n t) (cfP halfQ halfQ halfQ (-halfQ) n t) :=
  halves_rep prog w hn (fun a ha => by rw [above_eq n hn a ha]; exact fac2 (k_ne n hn a ha) dy_half dy_half) (fun a ha => by rw [below_eq n hn a ha]; exact fac2 (k_ne n hn a ha) dy_half dy_nhalf) n t (Nat.le_refl _) ht h1
theorem plain_rep (prog : Program) (w : World) {n : Nat} (hn : 2 ≤ n ∧ n ≤ 4) {t : List Int} (ht : t.length = 2 ^ n) (h1 : ∀ x ∈ t, x.natAbs ≤ 1) :
    HOk prog w (lessP n) (lettersP n) n n t ∧ HRep n n (halvesP (lessP n) (lettersP n) n n t) (cfP 1 (-1) 0 1 n t) :=
  halves_rep prog w hn (fun a ha => by rw [less_eq n hn a ha]; exact fac2 (k_ne n hn a ha) dy_one dy_none) (fun a ha => by rw [letters_eq n hn a ha]; exact fac1 dy_one) n t (Nat.le_refl _) ht h1

theorem one_mem {n : Nat} (hn : 2 ≤ n ∧ n ≤ 4) : ∀ e ∈ oneP n, e.1 ∈ rowsK n := fun e he => by
  obtain rfl := List.mem_singleton.mp he
  show zeroK n ∈ _
  rw [k_zero n hn]
  exact List.mem_map.mpr ⟨0, List.mem_range.mpr (Nat.pow_pos (by decide)), rfl⟩
theorem dy01 : Dy 0 1 1 := ⟨1, by decide +kernel, by decide⟩
theorem dy01n : Dy 0 1 (-1) := ⟨-1, by decide +kernel, by decide⟩
theorem dy1 (j : Nat) : ∀ (k : List Int), DyP 0 1 [(k, (1 : Rat))] := fun k e he => by
  obtain rfl := List.mem_singleton.mp he; exact dy01
theorem dy1n : ∀ (k : List Int), DyP 0 1 [(k, -(1 : Rat))] := fun k e he => by
  obtain rfl := List.mem_singleton.mp he; exact dy01n
theorem facts1 (prog : Program) (w : World) {n : Nat} (hn : 2 ≤ n ∧ n ≤ 4) {table places : List Int} (ht : table.length = 2 ^ n) (h01 : ∀ x ∈ table, x = 0 ∨ x = 1) : Facts1 prog w n table places := by
  have two : ∀ (p : Poly), ND p → p.length = 1 → DyP 0 1 p → SumOk prog w (oneP n) p ∧ ((padd (oneP n) p).map (·.1)).Nodup ∧ (∀ e ∈ padd (oneP n) p, SmR 4000 e.2) ∧ (padd (oneP n) p).length ≤ 1000 := by
    intro p hp hl hd
    have n1 : ND (oneP n) := by simp [ND, oneP]
    have hone : DyP 0 1 (oneP n) := dy1 0 (zeroK n)
    have l1 : (oneP n).length = 1 := rfl
    have hd2 := DyP.padd p hone hd
    rw [hl] at hd2
    refine ⟨⟨hp, AddOk.of hone hd (by omega) (by decide) (by rw [hl]; decide) (by decide), by omega, hashOk_of prog w hn n1 (one_mem hn)⟩, ND_padd _ n1, fun e he => (hd2 e he).sm (by decide) (by decide), ?_⟩
    have := len_padd p (oneP n)
    omega
  refine ⟨fun a _ => two _ (by simp [ND, letP]) rfl (dy1 0 _), fun a _ => two _ (by simp [ND, pneg, letP]) rfl (dy1n _), ?_, ?_⟩
  · refine (told_rep prog w hn (by simpa [signsP] using ht) fun x hx => ?_).1
    obtain ⟨b, hb, rfl⟩ := List.mem_map.mp hx
    rcases h01 b hb with rfl | rfl <;> decide
  · refine (plain_rep prog w hn ht fun x hx => ?_).1
    rcases h01 x hx with rfl | rfl <;> decide
end Mine
end

section
open PySem PySem.W PyProof.Rows PySem.Calls
set_option autoImplicit false
set_option maxRecDepth 100000
namespace Mine

noncomputable def sumsR : Nat → List Int → List Int
  | 0, t => [t.getD 0 0]
  | a + 1, t => List.zipWith (· + ·) (sumsR a (t.take (2 ^ a))) (sumsR a (t.drop (2 ^ a))) ++ List.zipWith (· - ·) (sumsR a (t.take (2 ^ a))) (sumsR a (t.drop (2 ^ a)))
noncomputable def withinR : Nat → List Int → List Int
  | 0, t => [t.getD 0 0]
  | a + 1, t => withinR a (t.take (2 ^ a)) ++ List.zipWith (· - ·) (withinR a (t.drop (2 ^ a))) (withinR a (t.take (2 ^ a)))
theorem sums_row2_0 (x0 x1 x2 x3 : Int) : sumsRow 2 [x0, x1, x2, x3] 0 = [x0 + x1, x0 - x1, x2 + x3, x2 - x3] := by kernel_rfl
theorem sums_row2_1 (x0 x1 x2 x3 : Int) : sumsRow 2 [x0, x1, x2, x3] 1 = [x0 + x2, x1 + x3, x0 - x2, x1 - x3] := by kernel_rfl
theorem sumsP2 (l : List Int) : sumsP 2 l = (sumsRow 2 (sumsRow 2 l 0) 1) := by
  simp only [sumsP, show List.range 2 = [0, 1] from rfl, List.foldl_cons, List.foldl_nil]
theorem sums_all2 (x0 x1 x2 x3 : Int) : sumsP 2 [x0, x1, x2, x3] = sumsR 2 [x0, x1, x2, x3] := by
  rw [sumsP2, sums_row2_0, sums_row2_1]
  kernel_rfl
theorem within_row2_0 (x0 x1 x2 x3 : Int) : withinRow 2 [x0, x1, x2, x3] 0 = [x0, x1 - x0, x2, x3 - x2] := by kernel_rfl
theorem within_row2_1 (x0 x1 x2 x3 : Int) : withinRow 2 [x0, x1, x2, x3] 1 = [x0, x1, x2 - x0, x3 - x1] := by kernel_rfl
theorem withinP2 (l : List Int) : withinP 2 l = (withinRow 2 (withinRow 2 l 0) 1) := by
  simp only [withinP, show List.range 2 = [0, 1] from rfl, List.foldl_cons, List.foldl_nil]
theorem within_all2 (x0 x1 x2 x3 : Int) : withinP 2 [x0, x1, x2, x3] = withinR 2 [x0, x1, x2, x3] := by
  rw [withinP2, within_row2_0, within_row2_1]
  kernel_rfl
theorem sums_row3_0 (x0 x1 x2 x3 x4 x5 x6 x7 : Int) : sumsRow 3 [x0, x1, x2, x3, x4, x5, x6, x7] 0 = [x0 + x1, x0 - x1, x2 + x3, x2 - x3, x4 + x5, x4 - x5, x6 + x7, x6 - x7] := by kernel_rfl
theorem sums_row3_1 (x0 x1 x2 x3 x4 x5 x6 x7 : Int) : sumsRow 3 [x0, x1, x2, x3, x4, x5, x6, x7] 1 = [x0 + x2, x1 + x3, x0 - x2, x1 - x3, x4 + x6, x5 + x7, x4 - x6, x5 - x7] := by kernel_rfl
theorem sums_row3_2 (x0 x1 x2 x3 x4 x5 x6 x7 : Int) : sumsRow 3 [x0, x1, x2, x3, x4, x5, x6, x7] 2 = [x0 + x4, x1 + x5, x2 + x6, x3 + x7, x0 - x4, x1 - x5, x2 - x6, x3 - x7] := by kernel_rfl
theorem sumsP3 (l : List Int) : sumsP 3 l = (sumsRow 3 (sumsRow 3 (sumsRow 3 l 0) 1) 2) := by
  simp only [sumsP, show List.range 3 = [0, 1, 2] from rfl, List.foldl_cons, List.foldl_nil]
theorem sums_all3 (x0 x1 x2 x3 x4 x5 x6 x7 : Int) : sumsP 3 [x0, x1, x2, x3, x4, x5, x6, x7] = sumsR 3 [x0, x1, x2, x3, x4, x5, x6, x7] := by
  rw [sumsP3, sums_row3_0, sums_row3_1, sums_row3_2]
  kernel_rfl
theorem within_row3_0 (x0 x1 x2 x3 x4 x5 x6 x7 : Int) : withinRow 3 [x0, x1, x2, x3, x4, x5, x6, x7] 0 = [x0, x1 - x0, x2, x3 - x2, x4, x5 - x4, x6, x7 - x6] := by kernel_rfl
theorem within_row3_1 (x0 x1 x2 x3 x4 x5 x6 x7 : Int) : withinRow 3 [x0, x1, x2, x3, x4, x5, x6, x7] 1 = [x0, x1, x2 - x0, x3 - x1, x4, x5, x6 - x4, x7 - x5] := by kernel_rfl
theorem within_row3_2 (x0 x1 x2 x3 x4 x5 x6 x7 : Int) : withinRow 3 [x0, x1, x2, x3, x4, x5, x6, x7] 2 = [x0, x1, x2, x3, x4 - x0, x5 - x1, x6 - x2, x7 - x3] := by kernel_rfl
theorem withinP3 (l : List Int) : withinP 3 l = (withinRow 3 (withinRow 3 (withinRow 3 l 0) 1) 2) := by
  simp only [withinP, show List.range 3 = [0, 1, 2] from rfl, List.foldl_cons, List.foldl_nil]
theorem within_all3 (x0 x1 x2 x3 x4 x5 x6 x7 : Int) : withinP 3 [x0, x1, x2, x3, x4, x5, x6, x7] = withinR 3 [x0, x1, x2, x3, x4, x5, x6, x7] := by
  rw [withinP3, within_row3_0, within_row3_1, within_row3_2]
  kernel_rfl
theorem sums_row4_0 (x0 x1 x2 x3 x4 x5 x6 x7 x8 x9 x10 x11 x12 x13 x14 x15 : Int) : sumsRow 4 [x0, x1, x2, x3, x4, x5, x6, x7, x8, x9, x10, x11, x12, x13, x14, x15] 0 = [x0 + x1, x0 - x1, x2 + x3, x2 - x3, x4 + x5, x4 - x5, x6 + x7, x6 - x7, x8 + x9, x8 - x9, x10 + x11, x10 - x11, x12 + x13, x12 - x13, x14 + x15, x14 - x15] := by kernel_rfl
theorem sums_row4_1 (x0 x1 x2 x3 x4 x5 x6 x7 x8 x9 x10 x11 x12 x13 x14 x15 : Int) : sumsRow 4 [x0, x1, x2, x3, x4, x5, x6, x7, x8, x9, x10, x11, x12, x13, x14, x15] 1 = [x0 + x2, x1 + x3, x0 - x2, x1 - x3, x4 + x6, x5 + x7, x4 - x6, x5 - x7, x8 + x10, x9 + x11, x8 - x10, x9 - x11, x12 + x14, x13 + x15, x12 - x14, x13 - x15] := by kernel_rfl
theorem sums_row4_2 (x0 x1 x2 x3 x4 x5 x6 x7 x8 x9 x10 x11 x12 x13 x14 x15 : Int) : sumsRow 4 [x0, x1, x2, x3, x4, x5, x6, x7, x8, x9, x10, x11, x12, x13, x14, x15] 2 = [x0 + x4, x1 + x5, x2 + x6, x3 + x7, x0 - x4, x1 - x5, x2 - x6, x3 - x7, x8 + x12, x9 + x13, x10 + x14, x11 + x15, x8 - x12, x9 - x13, x10 - x14, x11 - x15] := by kernel_rfl
theorem sums_row4_3 (x0 x1 x2 x3 x4 x5 x6 x7 x8 x9 x10 x11 x12 x13 x14 x15 : Int) : sumsRow 4 [x0, x1, x2, x3, x4, x5, x6, x7, x8, x9, x10, x11, x12, x13, x14, x15] 3 = [x0 + x8, x1 + x9, x2 + x10, x3 + x11, x4 + x12, x5 + x13, x6 + x14, x7 + x15, x0 - x8, x1 - x9, x2 - x10, x3 - x11, x4 - x12, x5 - x13, x6 - x14, x7 - x15] := by kernel_rfl
theorem sumsP4 (l : List Int) : sumsP 4 l = (sumsRow 4 (sumsRow 4 (sumsRow 4 (sumsRow 4 l 0) 1) 2) 3) := by
  simp only [sumsP, show List.range 4 = [0, 1, 2, 3] from rfl, List.foldl_cons, List.foldl_nil]
theorem sums_all4 (x0 x1 x2 x3 x4 x5 x6 x7 x8 x9 x10 x11 x12 x13 x14 x15 : Int) : sumsP 4 [x0, x1, x2, x3, x4, x5, x6, x7, x8, x9, x10, x11, x12, x13, x14, x15] = sumsR 4 [x0, x1, x2, x3, x4, x5, x6, x7, x8, x9, x10, x11, x12, x13, x14, x15] := by
  rw [sumsP4, sums_row4_0, sums_row4_1, sums_row4_2, sums_row4_3]
  kernel_rfl
theorem within_row4_0 (x0 x1 x2 x3 x4 x5 x6 x7 x8 x9 x10 x11 x12 x13 x14 x15 : Int) : withinRow 4 [x0, x1, x2, x3, x4, x5, x6, x7, x8, x9, x10, x11, x12, x13, x14, x15] 0 = [x0, x1 - x0, x2, x3 - x2, x4, x5 - x4, x6, x7 - x6, x8, x9 - x8, x10, x11 - x10, x12, x13 - x12, x14, x15 - x14] := by kernel_rfl
theorem within_row4_1 (x0 x1 x2 x3 x4 x5 x6 x7 x8 x9 x10 x11 x12 x13 x14 x15 : Int) : withinRow 4 [x0, x1, x2, x3, x4, x5, x6, x7, x8, x9, x10, x11, x12, x13, x14, x15] 1 = [x0, x1, x2 - x0, x3 - x1, x4, x5, x6 - x4, x7 - x5, x8, x9, x10 - x8, x11 - x9, x12, x13, x14 - x12, x15 - x13] := by kernel_rfl
theorem within_row4_2 (x0 x1 x2 x3 x4 x5 x6 x7 x8 x9 x10 x11 x12 x13 x14 x15 : Int) : withinRow 4 [x0, x1, x2, x3, x4, x5, x6, x7, x8, x9, x10, x11, x12, x13, x14, x15] 2 = [x0, x1, x2, x3, x4 - x0, x5 - x1, x6 - x2, x7 - x3, x8, x9, x10, x11, x12 - x8, x13 - x9, x14 - x10, x15 - x11] := by kernel_rfl
theorem within_row4_3 (x0 x1 x2 x3 x4 x5 x6 x7 x8 x9 x10 x11 x12 x13 x14 x15 : Int) : withinRow 4 [x0, x1, x2, x3, x4, x5, x6, x7, x8, x9, x10, x11, x12, x13, x14, x15] 3 = [x0, x1, x2, x3, x4, x5, x6, x7, x8 - x0, x9 - x1, x10 - x2, x11 - x3, x12 - x4, x13 - x5, x14 - x6, x15 - x7] := by kernel_rfl
theorem withinP4 (l : List Int) : withinP 4 l = (withinRow 4 (withinRow 4 (withinRow 4 (withinRow 4 l 0) 1) 2) 3) := by
  simp only [withinP, show List.range 4 = [0, 1, 2, 3] from rfl, List.foldl_cons, List.foldl_nil]
theorem within_all4 (x0 x1 x2 x3 x4 x5 x6 x7 x8 x9 x10 x11 x12 x13 x14 x15 : Int) : withinP 4 [x0, x1, x2, x3, x4, x5, x6, x7, x8, x9, x10, x11, x12, x13, x14, x15] = withinR 4 [x0, x1, x2, x3, x4, x5, x6, x7, x8, x9, x10, x11, x12, x13, x14, x15] := by
  rw [withinP4, within_row4_0, within_row4_1, within_row4_2, within_row4_3]
  kernel_rfl
theorem sums_eq (n : Nat) (hn : 2 ≤ n ∧ n ≤ 4) (l : List Int) (hl : l.length = 2 ^ n) : sumsP n l = sumsR n l := by
  obtain rfl | rfl | rfl : n = 2 ∨ n = 3 ∨ n = 4 := by omega
  · match l, hl with
    | [x0, x1, x2, x3], _ => exact sums_all2 ..
  · match l, hl with
    | [x0, x1, x2, x3, x4, x5, x6, x7], _ => exact sums_all3 ..
  · match l, hl with
    | [x0, x1, x2, x3, x4, x5, x6, x7, x8, x9, x10, x11, x12, x13, x14, x15], _ => exact sums_all4 ..
theorem within_eq (n : Nat) (hn : 2 ≤ n ∧ n ≤ 4) (l : List Int) (hl : l.length = 2 ^ n) : withinP n l = withinR n l := by
  obtain rfl | rfl | rfl : n = 2 ∨ n = 3 ∨ n = 4 := by omega
  · match l, hl with
    | [x0, x1, x2, x3], _ => exact within_all2 ..
  · match l, hl with
    | [x0, x1, x2, x3, x4, x5, x6, x7], _ => exact within_all3 ..
  · match l, hl with
    | [x0, x1, x2, x3, x4, x5, x6, x7, x8, x9, x10, x11, x12, x13, x14, x15], _ => exact within_all4 ..
theorem zip_map {f : Int → Rat} {x y : Rat} {op : Int → Int → Int} {f' : Int → Rat} (h : ∀ p q, x * f p + y * f q = f' (op p q)) : ∀ (c d : List Int), comb x y (c.map f) (d.map f) = (List.zipWith op c d).map f'
  | [], _ => by simp [comb]
  | _ :: _, [] => by simp [comb]
  | p :: c, q :: d => by
    have ih := zip_map h c d
    unfold comb at *
    simp only [List.map_cons, List.zipWith_cons_cons, h, ih]
theorem cf_told : ∀ (a : Nat) (t : List Int), cfP halfQ halfQ halfQ (-halfQ) a t = (sumsR a t).map fun z => mkRat z (2 ^ a)
  | 0, t => by
    show [(t.getD 0 0 : Rat)] = [mkRat (t.getD 0 0) 1]
    rw [Rat.mkRat_eq_div]; simp; grind
  | a + 1, t => by
    have h2 : halfQ = 1 / 2 := by decide +kernel
    have e1 : ∀ p q : Int, halfQ * mkRat p (2 ^ a) + halfQ * mkRat q (2 ^ a) = mkRat (p + q) (2 ^ (a + 1)) := fun p q => by
      rw [Rat.mkRat_eq_div, Rat.mkRat_eq_div, Rat.mkRat_eq_div, Rat.intCast_add, h2, Nat.pow_succ, Rat.natCast_mul]
      have := p2ne a
      grind
    have e2 : ∀ p q : Int, halfQ * mkRat p (2 ^ a) + (-halfQ) * mkRat q (2 ^ a) = mkRat (p - q) (2 ^ (a + 1)) := fun p q => by
      rw [Rat.mkRat_eq_div, Rat.mkRat_eq_div, Rat.mkRat_eq_div, Rat.intCast_sub, h2, Nat.pow_succ, Rat.natCast_mul]
      have := p2ne a
      grind
    simp only [cfP, sumsR, cf_told a, List.map_append]
    rw [zip_map (op := (· + ·)) (f' := fun z => mkRat z (2 ^ (a + 1))) e1, zip_map (op := (· - ·)) (f' := fun z => mkRat z (2 ^ (a + 1))) e2]
theorem cf_plain : ∀ (a : Nat) (t : List Int), cfP 1 (-1) 0 1 a t = (withinR a t).map fun z : Int => (z : Rat)
  | 0, t => rfl
  | a + 1, t => by
    have e1 : ∀ p q : Int, (1 : Rat) * (p : Rat) + 0 * (q : Rat) = ((p : Int) : Rat) := fun p q => by grind
    have e2 : ∀ p q : Int, (-1 : Rat) * (p : Rat) + 1 * (q : Rat) = ((q - p : Int) : Rat) := fun p q => by rw [Rat.intCast_sub]; grind
    have hl : ∀ (c d : List Int), c.length = d.length → comb 1 0 (c.map fun z : Int => (z : Rat)) (d.map fun z : Int => (z : Rat)) = c.map fun z : Int => (z : Rat) := by
      intro c
      induction c with
      | nil => intro d _; rfl
      | cons x c ih =>
        intro d h
        cases d with
        | nil => simp at h
        | cons y d =>
          have h1 := ih d (by simpa using h)
          unfold comb at *
          simp only [List.map_cons, List.zipWith_cons_cons, h1, e1]
    have hh : ∀ (c d : List Int), comb (-1) 1 (c.map fun z : Int => (z : Rat)) (d.map fun z : Int => (z : Rat)) = (List.zipWith (· - ·) d c).map fun z : Int => (z : Rat) := by
      intro c
      induction c with
      | nil => intro d; cases d <;> rfl
      | cons x c ih =>
        intro d
        cases d with
        | nil => rfl
        | cons y d =>
          have h1 := ih d
          unfold comb at *
          simp only [List.map_cons, List.zipWith_cons_cons, h1, e2]
    have wl : ∀ (a : Nat) (t : List Int), (withinR a t).length = 2 ^ a := by
      intro a
      induction a with
      | zero => intro t; rfl
      | succ a ih =>
        intro t
        simp only [withinR, List.length_append, List.length_zipWith, ih]
        rw [Nat.pow_succ]; omega
    simp only [cfP, withinR, cf_plain a, List.map_append]
    rw [hl _ _ (by rw [wl, wl]), hh]
end Mine
end

section
open PySem PySem.W PyProof.Rows PySem.Calls
set_option autoImplicit false
set_option maxRecDepth 100000
namespace Mine

theorem I_termsAux (below n : Nat) (g : List Int → Rat) : ∀ (l : List Int) (s : Nat), I (((l.zipIdx s).filter fun x => x.1 != 0).map fun x => (bitsK x.2 n, mkRat x.1 below)) g = Ls n s (l.map fun z => mkRat z below) g
  | [], s => rfl
  | x :: l, s => by
    have ih := I_termsAux below n g l (s + 1)
    rw [List.zipIdx_cons, List.filter_cons, List.map_cons]
    show I (List.map _ (if (x != 0) = true then _ else _)) g = g (bitsK s n) * mkRat x below + Ls n (s + 1) _ g
    by_cases hx : x = 0
    · subst hx
      rw [if_neg (by simp), ih, Rat.zero_mkRat]; grind
    · rw [if_pos (by simpa using hx), List.map_cons]
      show g (bitsK s n) * mkRat x below + I _ g = _
      rw [ih]
theorem I_terms (l : List Int) (below n : Nat) (g : List Int → Rat) : I (termsP l below n) g = Ls n 0 (l.map fun z => mkRat z below) g := I_termsAux below n g l 0
theorem NZ_terms (l : List Int) (below n : Nat) (hb : below ≠ 0) : NZ (termsP l below n) := by
  intro e he
  obtain ⟨x, hx, rfl⟩ := List.mem_map.mp he
  have h0 : x.1 ≠ 0 := by simpa using (List.mem_filter.mp hx).2
  show mkRat x.1 below ≠ 0
  rw [Ne, Rat.mkRat_eq_zero hb]
  exact h0
theorem zipIdx_bits (n : Nat) : ∀ (l : List Int) (s : Nat), (l.zipIdx s).map (fun x => bitsK x.2 n) = (List.range' s l.length).map fun u => bitsK u n
  | [], s => rfl
  | x :: l, s => by
    rw [List.zipIdx_cons, List.map_cons, zipIdx_bits n l (s + 1), List.length_cons, List.range'_succ, List.map_cons]
theorem terms_sub (l : List Int) (below n : Nat) (hl : l.length = 2 ^ n) : ((termsP l below n).map (·.1)).Sublist (rowsK n) := by
  unfold termsP
  rw [List.map_map]
  have h1 : (l.zipIdx.map fun x => bitsK x.2 n) = rowsK n := by
    rw [zipIdx_bits, hl]; unfold rowsK; rw [List.range_eq_range']
  rw [← h1]
  exact List.Sublist.map _ List.filter_sublist
theorem ND_terms (l : List Int) (below n : Nat) (hn : 2 ≤ n ∧ n ≤ 4) (hl : l.length = 2 ^ n) : ND (termsP l below n) := List.Sublist.nodup (terms_sub l below n hl) (k_nodup n hn)

section
variable {n : Nat} (hn : 2 ≤ n ∧ n ≤ 4) {table : List Int} (ht : table.length = 2 ^ n) (h01 : ∀ x ∈ table, x = 0 ∨ x = 1)
include hn ht h01
theorem toldR (w : World) : HRep n n (toldP n table) ((worthsP n table).map fun z => mkRat z (2 ^ n)) := by
  have hs : (signsP table).length = 2 ^ n := by simpa [signsP] using ht
  have h := (told_rep PySem.Challenge.pw_xm0120_01 w hn hs fun x hx => by
    obtain ⟨b, hb, rfl⟩ := List.mem_map.mp hx
    rcases h01 b hb with rfl | rfl <;> decide).2
  rw [cf_told, ← sums_eq n hn _ hs] at h
  exact h
theorem plainR (w : World) : HRep n n (plainP n table) ((withinP n table).map fun z : Int => (z : Rat)) := by
  have h := (plain_rep PySem.Challenge.pw_xm0120_01 w hn ht fun x hx => by rcases h01 x hx with rfl | rfl <;> decide).2
  rw [cf_plain, ← within_eq n hn _ ht] at h
  exact h
theorem f_e1 (w : World) : tbEq (tbP (toldP n table)) (tbP (termsP (worthsP n table) (2 ^ n) n)) = true := by
  have h := toldR hn ht h01 w
  have hl : (worthsP n table).length = 2 ^ n := by unfold worthsP; rw [sumsP_length]; simpa [signsP] using ht
  exact tbEq_of h.nd (ND_terms _ _ n hn hl) h.nz (NZ_terms _ _ n (p2ne n)) fun g => by rw [h.fn, I_terms]
theorem f_e2 (w : World) : tbEq (tbP (plainP n table)) (tbP (termsP (withinP n table) 1 n)) = true := by
  have h := plainR hn ht h01 w
  have hl : (withinP n table).length = 2 ^ n := by rw [withinP_length, ht]
  refine tbEq_of h.nd (ND_terms _ _ n hn hl) h.nz (NZ_terms _ _ n (by decide)) fun g => ?_
  rw [h.fn, I_terms]
  congr 1
  refine List.map_congr_left fun z _ => ?_
  rw [Rat.mkRat_eq_div]; simp; grind
end
end Mine
end

section
open PySem PySem.W PyProof.Rows PySem.Calls
set_option autoImplicit false
set_option maxRecDepth 100000
namespace Mine

theorem pmono_lin (vals : List Rat) : ∀ (ps : List (Int × Nat)) (q : Rat), pmono vals q ps = pmono vals 1 ps * q
  | [], q => by show q = 1 * q; grind
  | x :: ps, q => by
    have h1 := pmono_lin vals ps (q * powR (vals.getD x.2 0) x.1.toNat)
    have h2 := pmono_lin vals ps (1 * powR (vals.getD x.2 0) x.1.toNat)
    show pmono vals (q * powR (vals.getD x.2 0) x.1.toNat) ps = pmono vals (1 * powR (vals.getD x.2 0) x.1.toNat) ps * q
    rw [h1, h2]; grind
noncomputable def mu (vals : List Rat) (k : List Int) : Rat := pmono vals 1 k.zipIdx
theorem pat_I (vals : List Rat) (p : Poly) : pat p vals = I p (mu vals) := by
  have : ∀ (p : Poly) (acc : Rat), p.foldl (fun acc e => acc + pmono vals e.2 e.1.zipIdx) acc = acc + I p (mu vals) := by
    intro p
    induction p with
    | nil => intro acc; show acc = acc + 0; grind
    | cons e p ih =>
      intro acc
      rw [List.foldl_cons, ih, pmono_lin]
      show acc + mu vals e.1 * e.2 + I p (mu vals) = acc + (mu vals e.1 * e.2 + I p (mu vals))
      grind
  show p.foldl _ 0 = _
  rw [this]; grind

theorem mu_step (vals : List Rat) (n : Nat) (hn : 2 ≤ n ∧ n ≤ 4) : mu vals (bitsK 0 n) = 1 ∧ ∀ a < n, ∀ u < 2 ^ a, mu vals (bitsK (u + 2 ^ a) n) = vals.getD a 0 * mu vals (bitsK u n) := by
  obtain rfl | rfl | rfl : n = 2 ∨ n = 3 ∨ n = 4 := by omega
  · refine ⟨by show (1 * 1 * 1 : Rat) = 1; grind, fun a ha u hu => ?_⟩
    obtain rfl | rfl : a = 0 ∨ a = 1 := by omega
    · obtain rfl : u = 0 := by simpa using hu
      show (1 * vals.getD 0 0 * 1 : Rat) = vals.getD 0 0 * (1 * 1 * 1); grind
    · obtain rfl | rfl : u = 0 ∨ u = 1 := by simp at hu; omega
      · show (1 * 1 * vals.getD 1 0 : Rat) = vals.getD 1 0 * (1 * 1 * 1); grind
      · show (1 * vals.getD 0 0 * vals.getD 1 0 : Rat) = vals.getD 1 0 * (1 * vals.getD 0 0 * 1); grind
  · refine ⟨by show (1 * 1 * 1 * 1 : Rat) = 1; grind, fun a ha u hu => ?_⟩
    obtain rfl | rfl | rfl : a = 0 ∨ a = 1 ∨ a = 2 := by omega
    · obtain rfl : u = 0 := by simpa using hu
      show (1 * vals.getD 0 0 * 1 * 1 : Rat) = vals.getD 0 0 * (1 * 1 * 1 * 1); grind
    · obtain rfl | rfl : u = 0 ∨ u = 1 := by simp at hu; omega
      · show (1 * 1 * vals.getD 1 0 * 1 : Rat) = vals.getD 1 0 * (1 * 1 * 1 * 1); grind
      · show (1 * vals.getD 0 0 * vals.getD 1 0 * 1 : Rat) = vals.getD 1 0 * (1 * vals.getD 0 0 * 1 * 1); grind
    · obtain rfl | rfl | rfl | rfl : u = 0 ∨ u = 1 ∨ u = 2 ∨ u = 3 := by simp at hu; omega
      · show (1 * 1 * 1 * vals.getD 2 0 : Rat) = vals.getD 2 0 * (1 * 1 * 1 * 1); grind
      · show (1 * vals.getD 0 0 * 1 * vals.getD 2 0 : Rat) = vals.getD 2 0 * (1 * vals.getD 0 0 * 1 * 1); grind
      · show (1 * 1 * vals.getD 1 0 * vals.getD 2 0 : Rat) = vals.getD 2 0 * (1 * 1 * vals.getD 1 0 * 1); grind
      · show (1 * vals.getD 0 0 * vals.getD 1 0 * vals.getD 2 0 : Rat) = vals.getD 2 0 * (1 * vals.getD 0 0 * vals.getD 1 0 * 1); grind
  · refine ⟨by show (1 * 1 * 1 * 1 * 1 : Rat) = 1; grind, fun a ha u hu => ?_⟩
    obtain rfl | rfl | rfl | rfl : a = 0 ∨ a = 1 ∨ a = 2 ∨ a = 3 := by omega
    · obtain rfl : u = 0 := by simpa using hu
      show (1 * vals.getD 0 0 * 1 * 1 * 1 : Rat) = vals.getD 0 0 * (1 * 1 * 1 * 1 * 1); grind
    · obtain rfl | rfl : u = 0 ∨ u = 1 := by simp at hu; omega
      · show (1 * 1 * vals.getD 1 0 * 1 * 1 : Rat) = vals.getD 1 0 * (1 * 1 * 1 * 1 * 1); grind
      · show (1 * vals.getD 0 0 * vals.getD 1 0 * 1 * 1 : Rat) = vals.getD 1 0 * (1 * vals.getD 0 0 * 1 * 1 * 1); grind
    · obtain rfl | rfl | rfl | rfl : u = 0 ∨ u = 1 ∨ u = 2 ∨ u = 3 := by simp at hu; omega
      · show (1 * 1 * 1 * vals.getD 2 0 * 1 : Rat) = vals.getD 2 0 * (1 * 1 * 1 * 1 * 1); grind
      · show (1 * vals.getD 0 0 * 1 * vals.getD 2 0 * 1 : Rat) = vals.getD 2 0 * (1 * vals.getD 0 0 * 1 * 1 * 1); grind
      · show (1 * 1 * vals.getD 1 0 * vals.getD 2 0 * 1 : Rat) = vals.getD 2 0 * (1 * 1 * vals.getD 1 0 * 1 * 1); grind
      · show (1 * vals.getD 0 0 * vals.getD 1 0 * vals.getD 2 0 * 1 : Rat) = vals.getD 2 0 * (1 * vals.getD 0 0 * vals.getD 1 0 * 1 * 1); grind
    · obtain rfl | rfl | rfl | rfl | rfl | rfl | rfl | rfl : u = 0 ∨ u = 1 ∨ u = 2 ∨ u = 3 ∨ u = 4 ∨ u = 5 ∨ u = 6 ∨ u = 7 := by simp at hu; omega
      · show (1 * 1 * 1 * 1 * vals.getD 3 0 : Rat) = vals.getD 3 0 * (1 * 1 * 1 * 1 * 1); grind
      · show (1 * vals.getD 0 0 * 1 * 1 * vals.getD 3 0 : Rat) = vals.getD 3 0 * (1 * vals.getD 0 0 * 1 * 1 * 1); grind
      · show (1 * 1 * vals.getD 1 0 * 1 * vals.getD 3 0 : Rat) = vals.getD 3 0 * (1 * 1 * vals.getD 1 0 * 1 * 1); grind
      · show (1 * vals.getD 0 0 * vals.getD 1 0 * 1 * vals.getD 3 0 : Rat) = vals.getD 3 0 * (1 * vals.getD 0 0 * vals.getD 1 0 * 1 * 1); grind
      · show (1 * 1 * 1 * vals.getD 2 0 * vals.getD 3 0 : Rat) = vals.getD 3 0 * (1 * 1 * 1 * vals.getD 2 0 * 1); grind
      · show (1 * vals.getD 0 0 * 1 * vals.getD 2 0 * vals.getD 3 0 : Rat) = vals.getD 3 0 * (1 * vals.getD 0 0 * 1 * vals.getD 2 0 * 1); grind
      · show (1 * 1 * vals.getD 1 0 * vals.getD 2 0 * vals.getD 3 0 : Rat) = vals.getD 3 0 * (1 * 1 * vals.getD 1 0 * vals.getD 2 0 * 1); grind
      · show (1 * vals.getD 0 0 * vals.getD 1 0 * vals.getD 2 0 * vals.getD 3 0 : Rat) = vals.getD 3 0 * (1 * vals.getD 0 0 * vals.getD 1 0 * vals.getD 2 0 * 1); grind

/-- the value of a list of coefficients -/
theorem val_rec (vals : List Rat) (n : Nat) (hn : 2 ≤ n ∧ n ≤ 4) (al bl ah bh : Rat) (a : Nat) (ha : a < n) (t : List Int) :
    Ls n 0 (cfP al bl ah bh (a + 1) t) (mu vals) = (al + bl * vals.getD a 0) * Ls n 0 (cfP al bl ah bh a (t.take (2 ^ a))) (mu vals) + (ah + bh * vals.getD a 0) * Ls n 0 (cfP al bl ah bh a (t.drop (2 ^ a))) (mu vals) := by
  have hc := cfP_length al bl ah bh a (t.take (2 ^ a))
  have hd := cfP_length al bl ah bh a (t.drop (2 ^ a))
  have hl : (comb al ah (cfP al bl ah bh a (t.take (2 ^ a))) (cfP al bl ah bh a (t.drop (2 ^ a)))).length = 2 ^ a := by simp [comb, hc, hd]
  have lin : ∀ (c : List Rat) (s : Nat) (g : List Int → Rat) (y : Rat), Ls n s c (fun k => y * g k) = y * Ls n s c g := by
    intro c
    induction c with
    | nil => intro s g y; show (0 : Rat) = y * 0; grind
    | cons x c ih => intro s g y; simp only [Ls]; rw [ih]; grind
  have sh : ∀ c : List Rat, c.length = 2 ^ a → Ls n (2 ^ a) c (mu vals) = vals.getD a 0 * Ls n 0 c (mu vals) := fun c hc => by
    have h := Ls_shift n (mu vals) (fun k => vals.getD a 0 * mu vals k) (2 ^ a) c 0 fun u _ hu => ((mu_step vals n hn).2 a ha u (by omega)).symm
    rw [lin, Nat.zero_add] at h
    exact h.symm
  show Ls n 0 (comb _ _ _ _ ++ comb _ _ _ _) (mu vals) = _
  rw [Ls_append, hl, Ls_comb n _ al ah _ _ 0 (by omega), Ls_comb n _ bl bh _ _ _ (by omega), Nat.zero_add, sh _ hc, sh _ hd]
  grind
end Mine
end

section
open PySem PySem.W PyProof.Rows PySem.Calls
set_option autoImplicit false
set_option maxRecDepth 100000
namespace Mine

theorem signs_take (t : List Int) (k : Nat) : (signsP t).take k = signsP (t.take k) := by unfold signsP; rw [List.map_take]
theorem signs_drop (t : List Int) (k : Nat) : (signsP t).drop k = signsP (t.drop k) := by unfold signsP; rw [List.map_drop]
theorem val_half (n : Nat) (hn : 2 ≤ n ∧ n ≤ 4) (x y : List Rat) (hxy : ∀ a < n, y.getD a 0 = (1 - x.getD a 0) / 2) : ∀ (a : Nat) (t : List Int), a ≤ n → t.length = 2 ^ a →
    Ls n 0 (cfP halfQ halfQ halfQ (-halfQ) a (signsP t)) (mu x) = 1 - 2 * Ls n 0 (cfP 1 (-1) 0 1 a t) (mu y)
  | 0, t, _, ht => by
    have hx := (mu_step x n hn).1
    have hy := (mu_step y n hn).1
    show mu x (bitsK 0 n) * ((signsP t).getD 0 0 : Rat) + 0 = 1 - 2 * (mu y (bitsK 0 n) * (t.getD 0 0 : Rat) + 0)
    rw [hx, hy]
    match t, ht with
    | [b], _ =>
      show 1 * ((1 - 2 * b : Int) : Rat) + 0 = 1 - 2 * (1 * (b : Rat) + 0)
      rw [Rat.intCast_sub, Rat.intCast_mul]
      grind
  | a + 1, t, ha, ht => by
    have e2 : 2 ^ (a + 1) = 2 ^ a + 2 ^ a := by rw [Nat.pow_succ]; omega
    have i1 := val_half n hn x y hxy a (t.take (2 ^ a)) (by omega) (by rw [List.length_take]; omega)
    have i2 := val_half n hn x y hxy a (t.drop (2 ^ a)) (by omega) (by rw [List.length_drop]; omega)
    have h2 : halfQ = 1 / 2 := by decide +kernel
    rw [val_rec x n hn _ _ _ _ a (by omega), val_rec y n hn _ _ _ _ a (by omega), signs_take, signs_drop, i1, i2, hxy a (by omega), h2]
    grind

theorem vals_rel (places : List Int) (n : Nat) (hp : places.length = n) : ∀ a < n, (vals6 places).getD a 0 = (1 - (vals7 places).getD a 0) / 2 := by
  intro a ha
  have h : a < places.length := by omega
  have e6 : (vals6 places).getD a 0 = mkRat (1 - places[a]) 2 := by simp [vals6, h]
  have e7 : (vals7 places).getD a 0 = ((places[a] : Int) : Rat) := by simp [vals7, h]
  rw [e6, e7, Rat.mkRat_eq_div, Rat.intCast_sub]
  rfl
theorem frac_half (q : Rat) : mkRat ((q.den : Int) - 2 * q.num) q.den = 1 - 2 * q := by
  have h : (q.num : Rat) / (q.den : Rat) = q := by rw [← Rat.mkRat_eq_div, Rat.mkRat_self]
  have hd : (q.den : Rat) ≠ 0 := by
    have := q.den_nz
    intro e
    exact this (by exact_mod_cast e)
  rw [Rat.mkRat_eq_div, Rat.intCast_sub, Rat.intCast_mul]
  generalize q.num = z at *
  have e : ((q.den : Int) : Rat) = (q.den : Rat) := rfl
  rw [e]
  generalize (q.den : Rat) = d at *
  have e3 : ((2 : Int) : Rat) = 2 := rfl
  rw [e3, ← h]
  grind
theorem f_e6 (w : World) {n : Nat} (hn : 2 ≤ n ∧ n ≤ 4) {table places : List Int} (ht : table.length = 2 ^ n) (h01 : ∀ x ∈ table, x = 0 ∨ x = 1) (hp : places.length = n) :
    pat (toldP n table) (vals7 places) = mkRat ((pat (plainP n table) (vals6 places)).den - 2 * (pat (plainP n table) (vals6 places)).num) (pat (plainP n table) (vals6 places)).den := by
  rw [frac_half, pat_I, pat_I]
  have hs : (signsP table).length = 2 ^ n := by simpa [signsP] using ht
  have h1 := (told_rep PySem.Challenge.pw_xm0120_01 w hn hs fun x hx => by
    obtain ⟨b, hb, rfl⟩ := List.mem_map.mp hx
    rcases h01 b hb with rfl | rfl <;> decide).2.fn (mu (vals7 places))
  have h2 := (plain_rep PySem.Challenge.pw_xm0120_01 w hn ht fun x hx => by rcases h01 x hx with rfl | rfl <;> decide).2.fn (mu (vals6 places))
  have e1 : I (toldP n table) (mu (vals7 places)) = _ := h1
  have e2 : I (plainP n table) (mu (vals6 places)) = _ := h2
  rw [e1, e2, val_half n hn (vals7 places) (vals6 places) (vals_rel places n hp) n table (Nat.le_refl _) ht]
end Mine
end

section
open PySem PySem.W PyProof.Rows PySem.Calls
set_option autoImplicit false
set_option maxRecDepth 100000
namespace Mine

theorem dy_pow {v : Rat} (h : Dy 1 6 v) (m : Nat) : Dy 1 6 (powR v m) := by
  unfold powR
  split
  · exact dy_one.mono (by decide)
  · exact h
theorem dy_mono {vals : List Rat} (hv : ∀ v ∈ vals, Dy 1 6 v) {j M : Nat} : ∀ (ps : List (Int × Nat)) (q : Rat), (∀ x ∈ ps, x.2 < vals.length) → Dy j M q → Dy (j + ps.length) (M * 6 ^ ps.length) (pmono vals q ps)
  | [], q, _, hq => by simpa [pmono] using hq
  | x :: ps, q, hx, hq => by
    have hlt := hx x List.mem_cons_self
    have hd : Dy 1 6 (vals.getD x.2 0) := by
      rw [List.getD_eq_getElem?_getD, List.getElem?_eq_getElem hlt]
      exact hv _ (List.getElem_mem _)
    have h1 := hq.mul (dy_pow hd x.1.toNat)
    have h2 := dy_mono hv ps (q * powR (vals.getD x.2 0) x.1.toNat) (fun y hy => hx y (List.mem_cons_of_mem _ hy)) h1
    have e1 : j + 1 + ps.length = j + (x :: ps).length := by rw [List.length_cons]; omega
    have e2 : M * 6 * 6 ^ ps.length = M * 6 ^ (x :: ps).length := by rw [List.length_cons, Nat.pow_succ, Nat.mul_assoc, Nat.mul_comm 6]
    rw [e1, e2] at h2
    exact h2

theorem dy_sum {vals : List Rat} {j M : Nat} : ∀ (p : Poly) (acc : Rat) (N : Nat), (∀ e ∈ p, Dy j M (pmono vals e.2 e.1.zipIdx)) → Dy j N acc → Dy j (N + p.length * M) (p.foldl (fun acc e => acc + pmono vals e.2 e.1.zipIdx) acc)
  | [], acc, N, _, h => by simpa using h
  | e :: p, acc, N, hp, h => by
    have h1 := dy_sum p _ (N + M) (fun x hx => hp x (List.mem_cons_of_mem _ hx)) (h.add (hp e List.mem_cons_self))
    rw [List.foldl_cons, List.length_cons]
    refine h1.mono ?_
    rw [Nat.succ_mul]; omega

theorem atOk_of {n M : Nat} {a : Poly} {vals : List Rat} (hn : n ≤ 4) (hk : ∀ e ∈ a, ∃ u, e.1 = bitsK u n) (hl : a.length ≤ 16) (hd : DyP n M a) (hM : M ≤ 2 ^ 50) (hv : ∀ v ∈ vals, Dy 1 6 v) (hvl : vals.length = n) : AtOk a vals := by
  have idx : ∀ e ∈ a, ∀ x ∈ e.1.zipIdx, x.2 < vals.length := fun e he x hx => by
    obtain ⟨u, e1⟩ := hk e he
    obtain ⟨m, i⟩ := x
    have := (List.mem_zipIdx hx).2.1
    rw [e1, bits_len] at this
    simp only at *; omega
  have h6 : (6 : Nat) ^ 4 ≤ 2 ^ 11 := by decide
  have big : ∀ i ≤ 4, M * 6 ^ i ≤ 2 ^ 61 := fun i hi => by
    have h1 : 6 ^ i ≤ 2 ^ 11 := Nat.le_trans (Nat.pow_le_pow_right (by decide) hi) h6
    have h2 := Nat.mul_le_mul hM h1
    rw [← Nat.pow_add] at h2
    exact h2
  have full : ∀ e ∈ a, Dy (n + n) (2 ^ 61) (pmono vals e.2 e.1.zipIdx) := fun e he => by
    have h := dy_mono hv e.1.zipIdx e.2 (idx e he) (hd e he)
    obtain ⟨u, e1⟩ := hk e he
    have hlen : e.1.zipIdx.length = n := by rw [List.length_zipIdx, e1, bits_len]
    rw [hlen] at h
    exact h.mono (big n hn)
  refine ⟨fun e he x hx => ?_, fun e he => ?_, fun v hv' => (hv v hv').sm (by decide) (by decide), fun e he pre post hp => ?_, fun pre post hp => ?_⟩
  · obtain ⟨u, e1⟩ := hk e he
    rw [e1] at hx
    exact bitsK01 _ _ x hx
  · obtain ⟨u, e1⟩ := hk e he
    rw [e1, bits_len, hvl]
  · have hpl : pre.length ≤ n := by
      obtain ⟨u, e1⟩ := hk e he
      have := congrArg List.length hp
      rw [List.length_zipIdx, e1, bits_len, List.length_append] at this
      omega
    have h := dy_mono hv pre e.2 (fun x hx => idx e he x (by rw [hp]; exact List.mem_append_left _ hx)) (hd e he)
    exact (h.mono (big _ (by omega))).sm (by omega) (Nat.pow_le_pow_right (by decide) (by decide))
  · have h0 : Dy (n + n) 0 0 := ⟨0, by rw [Rat.zero_mkRat], by decide⟩
    have h := dy_sum (vals := vals) pre 0 0 (fun e he => full e (by rw [hp]; exact List.mem_append_left _ he)) h0
    have hpl : pre.length ≤ 16 := by have := congrArg List.length hp; rw [List.length_append] at this; omega
    have h16 : (0 : Nat) + pre.length * 2 ^ 61 ≤ 2 ^ 200 := by
      have := Nat.mul_le_mul_right (2 ^ 61) hpl
      have h3 : (16 * 2 ^ 61 : Nat) ≤ 2 ^ 200 := by decide
      omega
    exact h.sm (by omega) h16
end Mine
end

section
open PySem PySem.W PyProof.Rows PySem.Calls
set_option autoImplicit false
set_option maxRecDepth 100000
namespace Mine

section
variable {n : Nat} (hn : 2 ≤ n ∧ n ≤ 4) {table places : List Int} (ht : table.length = 2 ^ n) (h01 : ∀ x ∈ table, x = 0 ∨ x = 1) (hp : places.length = n) (hp3 : ∀ x ∈ places, -2 ≤ x ∧ x ≤ 3)
include hp3
theorem v6_dy : ∀ v ∈ vals6 places, Dy 1 6 v := fun v hv => by
  obtain ⟨x, hx, rfl⟩ := List.mem_map.mp hv
  have := hp3 x hx
  exact ⟨1 - x, rfl, by omega⟩
theorem v7_dy : ∀ v ∈ vals7 places, Dy 1 6 v := fun v hv => by
  obtain ⟨x, hx, rfl⟩ := List.mem_map.mp hv
  have h := hp3 x hx
  have h1 : Dy 0 3 ((x : Int) : Rat) := (Dy.int x).mono (by omega)
  exact h1.up 1
include hn ht h01 hp
theorem f_at6 (w : World) : AtOk (plainP n table) (vals6 places) := by
  have h := plainR hn ht h01 w
  exact atOk_of (n := n) hn.2 (fun e he => let ⟨u, _, e1⟩ := h.keys e he; ⟨u, e1⟩) (Nat.le_trans h.len (Nat.le_trans (Nat.pow_le_pow_right (n := 2) (by decide) hn.2) (by decide))) h.dy (Nat.pow_le_pow_right (by decide) (by omega)) (v6_dy hp3) (by simp [vals6, hp])
theorem f_at7 (w : World) : AtOk (toldP n table) (vals7 places) := by
  have h := toldR hn ht h01 w
  exact atOk_of (n := n) hn.2 (fun e he => let ⟨u, _, e1⟩ := h.keys e he; ⟨u, e1⟩) (Nat.le_trans h.len (Nat.le_trans (Nat.pow_le_pow_right (n := 2) (by decide) hn.2) (by decide))) h.dy (Nat.pow_le_pow_right (by decide) (by omega)) (v7_dy hp3) (by simp [vals7, hp])
end
end Mine
end

section
open PySem PySem.W PyProof.Rows PySem.Calls
set_option autoImplicit false
set_option maxRecDepth 100000
namespace Mine

section
variable {n : Nat} (hn : 2 ≤ n ∧ n ≤ 4) {table places : List Int} (ht : table.length = 2 ^ n) (h01 : ∀ x ∈ table, x = 0 ∨ x = 1) (hp : places.length = n) (hp3 : ∀ x ∈ places, -2 ≤ x ∧ x ≤ 3)
include hn ht h01
theorem f_kt : ((termsP (worthsP n table) (2 ^ n) n).map (·.1)).Nodup := ND_terms _ _ n hn (by unfold worthsP; rw [sumsP_length]; simpa [signsP] using ht)
theorem f_kp : ((termsP (withinP n table) 1 n).map (·.1)).Nodup := ND_terms _ _ n hn (by rw [withinP_length, ht])
theorem f_lp (w : World) : (plainP n table).length ≤ 1000 := by
  have h := (plainR hn ht h01 w).len
  have h2 : 2 ^ n ≤ 16 := Nat.pow_le_pow_right (n := 2) (by decide) hn.2
  omega
include hp hp3
theorem f_sh (w : World) : SmR 4000 (pat (plainP n table) (vals6 places)) := (f_at6 hn ht h01 hp hp3 w).sum (plainP n table) [] (by simp)
end

/-! ## folded -/
theorem I_filter (p : Poly) (g : List Int → Rat) : I (p.filter fun e => !decide (e.2 = 0)) g = I p g := by
  induction p with
  | nil => rfl
  | cons e p ih =>
    rw [List.filter_cons]
    by_cases h : e.2 = 0
    · rw [if_neg (by simp [h]), ih]; simp only [I]; rw [h]; grind
    · rw [if_pos (by simp [h])]; simp only [I]; rw [ih]
theorem I_foldStep {f : Poly} (hf : ND f) (e : List Int × Rat) (g : List Int → Rat) : I (foldStep f e) g = I f g + g (modK e.1) * e.2 := by
  unfold foldStep
  rw [I_put hf]
  cases f.lookup (modK e.1) with
  | none => simp only [Option.getD_none]; grind
  | some r => simp only [Option.getD_some]; grind
theorem ND_foldStep {f : Poly} (hf : ND f) (e : List Int × Rat) : ND (foldStep f e) := aput_keys _ _ _ hf
theorem I_foldl (g : List Int → Rat) : ∀ (p f : Poly), ND f → I (p.foldl foldStep f) g = I f g + I p fun k => g (modK k)
  | [], f, _ => by show I f g = I f g + 0; grind
  | e :: p, f, hf => by
    rw [List.foldl_cons, I_foldl g p _ (ND_foldStep hf e), I_foldStep hf]
    simp only [I]; grind
theorem I_folded (p : Poly) (g : List Int → Rat) : I (foldedP p) g = I p fun k => g (modK k) := by
  unfold foldedP foldAcc
  rw [I_filter, I_foldl g p [] ND_nil]
  simp only [I]; grind
theorem ND_folded (p : Poly) : ND (foldedP p) := List.Sublist.nodup (List.Sublist.map _ List.filter_sublist) (foldAcc_nodup p)
theorem NZ_folded (p : Poly) : NZ (foldedP p) := fun e he => by simpa using (List.mem_filter.mp he).2
theorem DyP.foldStep {j M M' : Nat} {f : Poly} {e : List Int × Rat} (h : DyP j M f) (he : Dy j M' e.2) : DyP j (M + M') (foldStep f e) := by
  intro x hx
  unfold Mine.foldStep at hx
  rcases mem_aput hx with rfl | hx
  · cases hl : f.lookup (modK e.1) with
    | none => exact he.mono (by omega)
    | some r => exact (h _ (lookup_mem hl)).add he
  · exact (h x hx).mono (by omega)
theorem DyP.foldl {j M' : Nat} : ∀ (p : Poly) {f : Poly} {M : Nat}, DyP j M f → DyP j M' p → DyP j (M + p.length * M') (p.foldl Mine.foldStep f)
  | [], f, M, hf, _ => by simpa using hf
  | e :: p, f, M, hf, hp => by
    have h1 := DyP.foldl p (DyP.foldStep hf (hp e List.mem_cons_self)) fun x hx => hp x (List.mem_cons_of_mem _ hx)
    rw [List.foldl_cons]
    refine h1.mono ?_
    rw [List.length_cons, Nat.succ_mul]; omega
theorem FolOk.of {n j M : Nat} {a : Poly} (ha : ND a) (hl : a.length ≤ 1000) (hk : ∀ e ∈ a, e.1.length = n) (hn : n ≤ 100) (hd : DyP j M a) (hj : j ≤ 200) (hM : M ≤ 2 ^ 190) : FolOk a where
  nd := ha
  len := hl
  key := fun e he => by rw [hk e he]; exact hn
  ok := fun pre e post hp => by
    have hM' : M ≤ 2 ^ 200 := Nat.le_trans hM (Nat.pow_le_pow_right (by decide) (by decide))
    have hpl : pre.length ≤ 1000 := by have := congrArg List.length hp; rw [List.length_append] at this; omega
    refine ⟨(hd e (by rw [hp]; simp)).sm hj hM', fun r hr => ?_⟩
    have h := DyP.foldl (M' := M) (M := 0) pre DyP.nil fun x hx => hd x (by rw [hp]; exact List.mem_append_left _ hx)
    refine (h _ (lookup_mem hr)).sm hj ?_
    rw [Nat.zero_add]
    have h2 : (1000 : Nat) ≤ 2 ^ 10 := by decide
    refine Nat.le_trans (Nat.mul_le_mul (Nat.le_trans hpl h2) hM) ?_
    rw [← Nat.pow_add]
    exact Nat.pow_le_pow_right (by decide) (by decide)
end Mine
end

section
open PySem PySem.W PyProof.Rows PySem.Calls
set_option autoImplicit false
set_option maxRecDepth 100000
namespace Mine

theorem q_add (x y : Int) (b : Nat) : mkRat (x + y) b = mkRat x b + mkRat y b := by
  rw [Rat.mkRat_eq_div, Rat.mkRat_eq_div, Rat.mkRat_eq_div, Rat.intCast_add]
  grind
theorem q_mul (x y : Int) (b : Nat) : mkRat (x * y) (b * b) = mkRat x b * mkRat y b := (Rat.mkRat_mul_mkRat x y b b).symm
theorem k_mod (n : Nat) (hn : 2 ≤ n ∧ n ≤ 3) : ∀ v < 2 ^ n, ∀ u < 2 ^ n, modK (addK (bitsK u n) (bitsK v n)) = bitsK (u ^^^ v) n := by
  obtain rfl | rfl : n = 2 ∨ n = 3 := by omega
  all_goals decide +kernel
theorem alike2 (x0 x1 x2 x3 : Int) : alikeP [x0, x1, x2, x3] 2 = [0 + x0 * x0 + x1 * x1 + x2 * x2 + x3 * x3, 0 + x0 * x1 + x1 * x0 + x2 * x3 + x3 * x2, 0 + x0 * x2 + x1 * x3 + x2 * x0 + x3 * x1, 0 + x0 * x3 + x1 * x2 + x2 * x1 + x3 * x0] := by kernel_rfl
theorem conv2 (x0 x1 x2 x3 : Int) (b : Nat) (g : List Int → Rat) :
    Ls 2 0 ([x0, x1, x2, x3].map fun z => mkRat z b) (fun kb => Ls 2 0 ([x0, x1, x2, x3].map fun z => mkRat z b) fun ka => g (modK (addK ka kb))) = Ls 2 0 ((alikeP [x0, x1, x2, x3] 2).map fun z => mkRat z (b * b)) g := by
  rw [alike2]
  simp only [List.map_cons, List.map_nil, Ls, q_add, q_mul, Rat.zero_mkRat, Nat.zero_add, Nat.reduceAdd]
  simp only [show modK (addK (bitsK 0 2) (bitsK 0 2)) = bitsK 0 2 from k_mod 2 (by decide) 0 (by decide) 0 (by decide), show modK (addK (bitsK 1 2) (bitsK 0 2)) = bitsK 1 2 from k_mod 2 (by decide) 0 (by decide) 1 (by decide), show modK (addK (bitsK 2 2) (bitsK 0 2)) = bitsK 2 2 from k_mod 2 (by decide) 0 (by decide) 2 (by decide), show modK (addK (bitsK 3 2) (bitsK 0 2)) = bitsK 3 2 from k_mod 2 (by decide) 0 (by decide) 3 (by decide)]
  simp only [show modK (addK (bitsK 0 2) (bitsK 1 2)) = bitsK 1 2 from k_mod 2 (by decide) 1 (by decide) 0 (by decide), show modK (addK (bitsK 1 2) (bitsK 1 2)) = bitsK 0 2 from k_mod 2 (by decide) 1 (by decide) 1 (by decide), show modK (addK (bitsK 2 2) (bitsK 1 2)) = bitsK 3 2 from k_mod 2 (by decide) 1 (by decide) 2 (by decide), show modK (addK (bitsK 3 2) (bitsK 1 2)) = bitsK 2 2 from k_mod 2 (by decide) 1 (by decide) 3 (by decide)]
  simp only [show modK (addK (bitsK 0 2) (bitsK 2 2)) = bitsK 2 2 from k_mod 2 (by decide) 2 (by decide) 0 (by decide), show modK (addK (bitsK 1 2) (bitsK 2 2)) = bitsK 3 2 from k_mod 2 (by decide) 2 (by decide) 1 (by decide), show modK (addK (bitsK 2 2) (bitsK 2 2)) = bitsK 0 2 from k_mod 2 (by decide) 2 (by decide) 2 (by decide), show modK (addK (bitsK 3 2) (bitsK 2 2)) = bitsK 1 2 from k_mod 2 (by decide) 2 (by decide) 3 (by decide)]
  simp only [show modK (addK (bitsK 0 2) (bitsK 3 2)) = bitsK 3 2 from k_mod 2 (by decide) 3 (by decide) 0 (by decide), show modK (addK (bitsK 1 2) (bitsK 3 2)) = bitsK 2 2 from k_mod 2 (by decide) 3 (by decide) 1 (by decide), show modK (addK (bitsK 2 2) (bitsK 3 2)) = bitsK 1 2 from k_mod 2 (by decide) 3 (by decide) 2 (by decide), show modK (addK (bitsK 3 2) (bitsK 3 2)) = bitsK 0 2 from k_mod 2 (by decide) 3 (by decide) 3 (by decide)]
  generalize g (bitsK 0 2) = g0
  generalize g (bitsK 1 2) = g1
  generalize g (bitsK 2 2) = g2
  generalize g (bitsK 3 2) = g3
  generalize mkRat x0 b = y0
  generalize mkRat x1 b = y1
  generalize mkRat x2 b = y2
  generalize mkRat x3 b = y3
  grind
theorem alike3 (x0 x1 x2 x3 x4 x5 x6 x7 : Int) : alikeP [x0, x1, x2, x3, x4, x5, x6, x7] 3 = [0 + x0 * x0 + x1 * x1 + x2 * x2 + x3 * x3 + x4 * x4 + x5 * x5 + x6 * x6 + x7 * x7, 0 + x0 * x1 + x1 * x0 + x2 * x3 + x3 * x2 + x4 * x5 + x5 * x4 + x6 * x7 + x7 * x6, 0 + x0 * x2 + x1 * x3 + x2 * x0 + x3 * x1 + x4 * x6 + x5 * x7 + x6 * x4 + x7 * x5, 0 + x0 * x3 + x1 * x2 + x2 * x1 + x3 * x0 + x4 * x7 + x5 * x6 + x6 * x5 + x7 * x4, 0 + x0 * x4 + x1 * x5 + x2 * x6 + x3 * x7 + x4 * x0 + x5 * x1 + x6 * x2 + x7 * x3, 0 + x0 * x5 + x1 * x4 + x2 * x7 + x3 * x6 + x4 * x1 + x5 * x0 + x6 * x3 + x7 * x2, 0 + x0 * x6 + x1 * x7 + x2 * x4 + x3 * x5 + x4 * x2 + x5 * x3 + x6 * x0 + x7 * x1, 0 + x0 * x7 + x1 * x6 + x2 * x5 + x3 * x4 + x4 * x3 + x5 * x2 + x6 * x1 + x7 * x0] := by kernel_rfl
theorem conv3 (x0 x1 x2 x3 x4 x5 x6 x7 : Int) (b : Nat) (g : List Int → Rat) :
    Ls 3 0 ([x0, x1, x2, x3, x4, x5, x6, x7].map fun z => mkRat z b) (fun kb => Ls 3 0 ([x0, x1, x2, x3, x4, x5, x6, x7].map fun z => mkRat z b) fun ka => g (modK (addK ka kb))) = Ls 3 0 ((alikeP [x0, x1, x2, x3, x4, x5, x6, x7] 3).map fun z => mkRat z (b * b)) g := by
  rw [alike3]
  simp only [List.map_cons, List.map_nil, Ls, q_add, q_mul, Rat.zero_mkRat, Nat.zero_add, Nat.reduceAdd]
  simp only [show modK (addK (bitsK 0 3) (bitsK 0 3)) = bitsK 0 3 from k_mod 3 (by decide) 0 (by decide) 0 (by decide), show modK (addK (bitsK 1 3) (bitsK 0 3)) = bitsK 1 3 from k_mod 3 (by decide) 0 (by decide) 1 (by decide), show modK (addK (bitsK 2 3) (bitsK 0 3)) = bitsK 2 3 from k_mod 3 (by decide) 0 (by decide) 2 (by decide), show modK (addK (bitsK 3 3) (bitsK 0 3)) = bitsK 3 3 from k_mod 3 (by decide) 0 (by decide) 3 (by decide), show modK (addK (bitsK 4 3) (bitsK 0 3)) = bitsK 4 3 from k_mod 3 (by decide) 0 (by decide) 4 (by decide), show modK (addK (bitsK 5 3) (bitsK 0 3)) = bitsK 5 3 from k_mod 3 (by decide) 0 (by decide) 5 (by decide), show modK (addK (bitsK 6 3) (bitsK 0 3)) = bitsK 6 3 from k_mod 3 (by decide) 0 (by decide) 6 (by decide), show modK (addK (bitsK 7 3) (bitsK 0 3)) = bitsK 7 3 from k_mod 3 (by decide) 0 (by decide) 7 (by decide)]
  simp only [show modK (addK (bitsK 0 3) (bitsK 1 3)) = bitsK 1 3 from k_mod 3 (by decide) 1 (by decide) 0 (by decide), show modK (addK (bitsK 1 3) (bitsK 1 3)) = bitsK 0 3 from k_mod 3 (by decide) 1 (by decide) 1 (by decide), show modK (addK (bitsK 2 3) (bitsK 1 3)) = bitsK 3 3 from k_mod 3 (by decide) 1 (by decide) 2 (by decide), show modK (addK (bitsK 3 3) (bitsK 1 3)) = bitsK 2 3 from k_mod 3 (by decide) 1 (by decide) 3 (by decide), show modK (addK (bitsK 4 3) (bitsK 1 3)) = bitsK 5 3 from k_mod 3 (by decide) 1 (by decide) 4 (by decide), show modK (addK (bitsK 5 3) (bitsK 1 3)) = bitsK 4 3 from k_mod 3 (by decide) 1 (by decide) 5 (by decide), show modK (addK (bitsK 6 3) (bitsK 1 3)) = bitsK 7 3 from k_mod 3 (by decide) 1 (by decide) 6 (by decide), show modK (addK (bitsK 7 3) (bitsK 1 3)) = bitsK 6 3 from k_mod 3 (by decide) 1 (by decide) 7 (by decide)]
  simp only [show modK (addK (bitsK 0 3) (bitsK 2 3)) = bitsK 2 3 from k_mod 3 (by decide) 2 (by decide) 0 (by decide), show modK (addK (bitsK 1 3) (bitsK 2 3)) = bitsK 3 3 from k_mod 3 (by decide) 2 (by decide) 1 (by decide), show modK (addK (bitsK 2 3) (bitsK 2 3)) = bitsK 0 3 from k_mod 3 (by decide) 2 (by decide) 2 (by decide), show modK (addK (bitsK 3 3) (bitsK 2 3)) = bitsK 1 3 from k_mod 3 (by decide) 2 (by decide) 3 (by decide), show modK (addK (bitsK 4 3) (bitsK 2 3)) = bitsK 6 3 from k_mod 3 (by decide) 2 (by decide) 4 (by decide), show modK (addK (bitsK 5 3) (bitsK 2 3)) = bitsK 7 3 from k_mod 3 (by decide) 2 (by decide) 5 (by decide), show modK (addK (bitsK 6 3) (bitsK 2 3)) = bitsK 4 3 from k_mod 3 (by decide) 2 (by decide) 6 (by decide), show modK (addK (bitsK 7 3) (bitsK 2 3)) = bitsK 5 3 from k_mod 3 (by decide) 2 (by decide) 7 (by decide)]
  simp only [show modK (addK (bitsK 0 3) (bitsK 3 3)) = bitsK 3 3 from k_mod 3 (by decide) 3 (by decide) 0 (by decide), show modK (addK (bitsK 1 3) (bitsK 3 3)) = bitsK 2 3 from k_mod 3 (by decide) 3 (by decide) 1 (by decide), show modK (addK (bitsK 2 3) (bitsK 3 3)) = bitsK 1 3 from k_mod 3 (by decide) 3 (by decide) 2 (by decide), show modK (addK (bitsK 3 3) (bitsK 3 3)) = bitsK 0 3 from k_mod 3 (by decide) 3 (by decide) 3 (by decide), show modK (addK (bitsK 4 3) (bitsK 3 3)) = bitsK 7 3 from k_mod 3 (by decide) 3 (by decide) 4 (by decide), show modK (addK (bitsK 5 3) (bitsK 3 3)) = bitsK 6 3 from k_mod 3 (by decide) 3 (by decide) 5 (by decide), show modK (addK (bitsK 6 3) (bitsK 3 3)) = bitsK 5 3 from k_mod 3 (by decide) 3 (by decide) 6 (by decide), show modK (addK (bitsK 7 3) (bitsK 3 3)) = bitsK 4 3 from k_mod 3 (by decide) 3 (by decide) 7 (by decide)]
  simp only [show modK (addK (bitsK 0 3) (bitsK 4 3)) = bitsK 4 3 from k_mod 3 (by decide) 4 (by decide) 0 (by decide), show modK (addK (bitsK 1 3) (bitsK 4 3)) = bitsK 5 3 from k_mod 3 (by decide) 4 (by decide) 1 (by decide), show modK (addK (bitsK 2 3) (bitsK 4 3)) = bitsK 6 3 from k_mod 3 (by decide) 4 (by decide) 2 (by decide), show modK (addK (bitsK 3 3) (bitsK 4 3)) = bitsK 7 3 from k_mod 3 (by decide) 4 (by decide) 3 (by decide), show modK (addK (bitsK 4 3) (bitsK 4 3)) = bitsK 0 3 from k_mod 3 (by decide) 4 (by decide) 4 (by decide), show modK (addK (bitsK 5 3) (bitsK 4 3)) = bitsK 1 3 from k_mod 3 (by decide) 4 (by decide) 5 (by decide), show modK (addK (bitsK 6 3) (bitsK 4 3)) = bitsK 2 3 from k_mod 3 (by decide) 4 (by decide) 6 (by decide), show modK (addK (bitsK 7 3) (bitsK 4 3)) = bitsK 3 3 from k_mod 3 (by decide) 4 (by decide) 7 (by decide)]
  simp only [show modK (addK (bitsK 0 3) (bitsK 5 3)) = bitsK 5 3 from k_mod 3 (by decide) 5 (by decide) 0 (by decide), show modK (addK (bitsK 1 3) (bitsK 5 3)) = bitsK 4 3 from k_mod 3 (by decide) 5 (by decide) 1 (by decide), show modK (addK (bitsK 2 3) (bitsK 5 3)) = bitsK 7 3 from k_mod 3 (by decide) 5 (by decide) 2 (by decide), show modK (addK (bitsK 3 3) (bitsK 5 3)) = bitsK 6 3 from k_mod 3 (by decide) 5 (by decide) 3 (by decide), show modK (addK (bitsK 4 3) (bitsK 5 3)) = bitsK 1 3 from k_mod 3 (by decide) 5 (by decide) 4 (by decide), show modK (addK (bitsK 5 3) (bitsK 5 3)) = bitsK 0 3 from k_mod 3 (by decide) 5 (by decide) 5 (by decide), show modK (addK (bitsK 6 3) (bitsK 5 3)) = bitsK 3 3 from k_mod 3 (by decide) 5 (by decide) 6 (by decide), show modK (addK (bitsK 7 3) (bitsK 5 3)) = bitsK 2 3 from k_mod 3 (by decide) 5 (by decide) 7 (by decide)]
  simp only [show modK (addK (bitsK 0 3) (bitsK 6 3)) = bitsK 6 3 from k_mod 3 (by decide) 6 (by decide) 0 (by decide), show modK (addK (bitsK 1 3) (bitsK 6 3)) = bitsK 7 3 from k_mod 3 (by decide) 6 (by decide) 1 (by decide), show modK (addK (bitsK 2 3) (bitsK 6 3)) = bitsK 4 3 from k_mod 3 (by decide) 6 (by decide) 2 (by decide), show modK (addK (bitsK 3 3) (bitsK 6 3)) = bitsK 5 3 from k_mod 3 (by decide) 6 (by decide) 3 (by decide), show modK (addK (bitsK 4 3) (bitsK 6 3)) = bitsK 2 3 from k_mod 3 (by decide) 6 (by decide) 4 (by decide), show modK (addK (bitsK 5 3) (bitsK 6 3)) = bitsK 3 3 from k_mod 3 (by decide) 6 (by decide) 5 (by decide), show modK (addK (bitsK 6 3) (bitsK 6 3)) = bitsK 0 3 from k_mod 3 (by decide) 6 (by decide) 6 (by decide), show modK (addK (bitsK 7 3) (bitsK 6 3)) = bitsK 1 3 from k_mod 3 (by decide) 6 (by decide) 7 (by decide)]
  simp only [show modK (addK (bitsK 0 3) (bitsK 7 3)) = bitsK 7 3 from k_mod 3 (by decide) 7 (by decide) 0 (by decide), show modK (addK (bitsK 1 3) (bitsK 7 3)) = bitsK 6 3 from k_mod 3 (by decide) 7 (by decide) 1 (by decide), show modK (addK (bitsK 2 3) (bitsK 7 3)) = bitsK 5 3 from k_mod 3 (by decide) 7 (by decide) 2 (by decide), show modK (addK (bitsK 3 3) (bitsK 7 3)) = bitsK 4 3 from k_mod 3 (by decide) 7 (by decide) 3 (by decide), show modK (addK (bitsK 4 3) (bitsK 7 3)) = bitsK 3 3 from k_mod 3 (by decide) 7 (by decide) 4 (by decide), show modK (addK (bitsK 5 3) (bitsK 7 3)) = bitsK 2 3 from k_mod 3 (by decide) 7 (by decide) 5 (by decide), show modK (addK (bitsK 6 3) (bitsK 7 3)) = bitsK 1 3 from k_mod 3 (by decide) 7 (by decide) 6 (by decide), show modK (addK (bitsK 7 3) (bitsK 7 3)) = bitsK 0 3 from k_mod 3 (by decide) 7 (by decide) 7 (by decide)]
  generalize g (bitsK 0 3) = g0
  generalize g (bitsK 1 3) = g1
  generalize g (bitsK 2 3) = g2
  generalize g (bitsK 3 3) = g3
  generalize g (bitsK 4 3) = g4
  generalize g (bitsK 5 3) = g5
  generalize g (bitsK 6 3) = g6
  generalize g (bitsK 7 3) = g7
  generalize mkRat x0 b = y0
  generalize mkRat x1 b = y1
  generalize mkRat x2 b = y2
  generalize mkRat x3 b = y3
  generalize mkRat x4 b = y4
  generalize mkRat x5 b = y5
  generalize mkRat x6 b = y6
  generalize mkRat x7 b = y7
  grind
theorem conv_all {n : Nat} (hn : 2 ≤ n ∧ n ≤ 3) (l : List Int) (hl : l.length = 2 ^ n) (b : Nat) (g : List Int → Rat) :
    Ls n 0 (l.map fun z => mkRat z b) (fun kb => Ls n 0 (l.map fun z => mkRat z b) fun ka => g (modK (addK ka kb))) = Ls n 0 ((alikeP l n).map fun z => mkRat z (b * b)) g := by
  obtain rfl | rfl : n = 2 ∨ n = 3 := by omega
  · match l, hl with
    | [x0, x1, x2, x3], _ => exact conv2 ..
  · match l, hl with
    | [x0, x1, x2, x3, x4, x5, x6, x7], _ => exact conv3 ..
theorem I_square {n : Nat} (hn : 2 ≤ n ∧ n ≤ 3) {p : Poly} {l : List Int} {b : Nat} (hl : l.length = 2 ^ n) (hp : ∀ g, I p g = Ls n 0 (l.map fun z => mkRat z b) g) (g : List Int → Rat) :
    I (foldedP (pmul p p)) g = Ls n 0 ((alikeP l n).map fun z => mkRat z (b * b)) g := by
  rw [I_folded, I_pmul, ← conv_all hn l hl b g, hp]
  congr 1
  funext kb
  rw [hp]
end Mine
end

section
open PySem PySem.W PyProof.Rows PySem.Calls
set_option autoImplicit false
set_option maxRecDepth 100000
namespace Mine

/-- all tables of so many places -/
noncomputable def tabs : Nat → List (List Int)
  | 0 => [[]]
  | k + 1 => (tabs k).map (fun t => 0 :: t) ++ (tabs k).map (fun t => 1 :: t)
theorem mem_tabs : ∀ (k : Nat) (t : List Int), t.length = k → (∀ x ∈ t, x = 0 ∨ x = 1) → t ∈ tabs k
  | 0, [], _, _ => List.mem_singleton.mpr rfl
  | k + 1, x :: t, hl, h => by
    have ih := mem_tabs k t (by simpa using hl) fun y hy => h y (List.mem_cons_of_mem _ hy)
    rcases h x List.mem_cons_self with rfl | rfl
    · exact List.mem_append_left _ (List.mem_map.mpr ⟨t, ih, rfl⟩)
    · exact List.mem_append_right _ (List.mem_map.mpr ⟨t, ih, rfl⟩)

noncomputable def self2 : List Int → List Int
  | [x0, x1, x2, x3] => [0 + x0 * x0 + x1 * x1 + x2 * x2 + x3 * x3, 0 + x0 * x1 + x1 * x0 + x2 * x3 + x3 * x2, 0 + x0 * x2 + x1 * x3 + x2 * x0 + x3 * x1, 0 + x0 * x3 + x1 * x2 + x2 * x1 + x3 * x0]
  | _ => []
noncomputable def self3 : List Int → List Int
  | [x0, x1, x2, x3, x4, x5, x6, x7] => [0 + x0 * x0 + x1 * x1 + x2 * x2 + x3 * x3 + x4 * x4 + x5 * x5 + x6 * x6 + x7 * x7, 0 + x0 * x1 + x1 * x0 + x2 * x3 + x3 * x2 + x4 * x5 + x5 * x4 + x6 * x7 + x7 * x6, 0 + x0 * x2 + x1 * x3 + x2 * x0 + x3 * x1 + x4 * x6 + x5 * x7 + x6 * x4 + x7 * x5, 0 + x0 * x3 + x1 * x2 + x2 * x1 + x3 * x0 + x4 * x7 + x5 * x6 + x6 * x5 + x7 * x4, 0 + x0 * x4 + x1 * x5 + x2 * x6 + x3 * x7 + x4 * x0 + x5 * x1 + x6 * x2 + x7 * x3, 0 + x0 * x5 + x1 * x4 + x2 * x7 + x3 * x6 + x4 * x1 + x5 * x0 + x6 * x3 + x7 * x2, 0 + x0 * x6 + x1 * x7 + x2 * x4 + x3 * x5 + x4 * x2 + x5 * x3 + x6 * x0 + x7 * x1, 0 + x0 * x7 + x1 * x6 + x2 * x5 + x3 * x4 + x4 * x3 + x5 * x2 + x6 * x1 + x7 * x0]
  | _ => []
noncomputable def ones (n : Nat) : List Int := ((4 : Int) ^ n) :: List.replicate (2 ^ n - 1) 0
theorem selfs2 (x0 x1 x2 x3 : Int) : alikeP [x0, x1, x2, x3] 2 = self2 [x0, x1, x2, x3] := alike2 ..
theorem selfs3 (x0 x1 x2 x3 x4 x5 x6 x7 : Int) : alikeP [x0, x1, x2, x3, x4, x5, x6, x7] 3 = self3 [x0, x1, x2, x3, x4, x5, x6, x7] := alike3 ..
theorem ones2 : ∀ t ∈ tabs 4, self2 (sumsR 2 (signsP t)) = ones 2 := by decide +kernel
theorem ones3 : ∀ t ∈ tabs 8, self3 (sumsR 3 (signsP t)) = ones 3 := by decide +kernel
theorem self_two (l : List Int) (hl : l.length = 2 ^ 2) : alikeP l 2 = self2 l := by
  match l, hl with
  | [x0, x1, x2, x3], _ => exact selfs2 ..
theorem self_three (l : List Int) (hl : l.length = 2 ^ 3) : alikeP l 3 = self3 l := by
  match l, hl with
  | [x0, x1, x2, x3, x4, x5, x6, x7], _ => exact selfs3 ..
theorem sumsR_length : ∀ (a : Nat) (t : List Int), (sumsR a t).length = 2 ^ a
  | 0, t => rfl
  | a + 1, t => by
    simp only [sumsR, List.length_append, List.length_zipWith, sumsR_length a]
    rw [Nat.pow_succ]; omega
theorem withinR_length : ∀ (a : Nat) (t : List Int), (withinR a t).length = 2 ^ a
  | 0, t => rfl
  | a + 1, t => by
    simp only [withinR, List.length_append, List.length_zipWith, withinR_length a]
    rw [Nat.pow_succ]; omega
theorem alike_worths {n : Nat} (hn : 2 ≤ n ∧ n ≤ 3) {t : List Int} (ht : t.length = 2 ^ n) (h01 : ∀ x ∈ t, x = 0 ∨ x = 1) : alikeP (worthsP n t) n = ones n := by
  have hs : (signsP t).length = 2 ^ n := by simpa [signsP] using ht
  unfold worthsP
  rw [sums_eq n ⟨hn.1, by omega⟩ _ hs]
  have hm := mem_tabs (2 ^ n) t ht h01
  obtain rfl | rfl : n = 2 ∨ n = 3 := by omega
  · rw [self_two _ (sumsR_length ..)]; exact ones2 t hm
  · rw [self_three _ (sumsR_length ..)]; exact ones3 t hm

/-! ## degrees and two-parts -/
noncomputable def oddL (l : List Int) (n : Nat) : List Int := (l.zipIdx.filter fun x => decide (x.1.fmod 2 = 1)).map fun x => (bitsK x.2 n).sum
noncomputable def absL (l : List Int) : List Int := l.map fun x => ((x.natAbs : Nat) : Int)
noncomputable abbrev Deg (n : Nat) (W A t : List Int) (d m : Nat) (mx : Int) : Prop :=
  (d : Int) ∈ 0 :: oddL A n ∧ (∀ x ∈ 0 :: oddL A n, x ≤ (d : Int)) ∧ d ≤ n ∧ oddW W m ≠ [] ∧ (∀ j < m, oddW W j = []) ∧ m ≤ 50 ∧ (0 < d → (n + d - 1) / d ≤ m) ∧ (0 < t.sum → (2 ^ (n - d) : Nat) ≤ t.sum) ∧
  mx ∈ absL W ∧ (∀ x ∈ absL W, x ≤ mx) ∧ (n = 4 → 2 < d → mx ≠ 4) ∧ d + m ≤ n + 1
noncomputable def dOf (n : Nat) (A : List Int) : Nat := (oddL A n).foldl (fun a x => max a x.toNat) 0
noncomputable def mOf (W : List Int) : Nat := (List.range 5).foldl (fun a j => if a = j ∧ oddW W j = [] then j + 1 else a) 0
noncomputable def xOf (W : List Int) : Int := (absL W).foldl max 0
theorem deg2 : ∀ t ∈ tabs 4, Deg 2 (sumsR 2 (signsP t)) (withinR 2 t) t (dOf 2 (withinR 2 t)) (mOf (sumsR 2 (signsP t))) (xOf (sumsR 2 (signsP t))) := by decide +kernel
theorem deg3 : ∀ t ∈ tabs 8, Deg 3 (sumsR 3 (signsP t)) (withinR 3 t) t (dOf 3 (withinR 3 t)) (mOf (sumsR 3 (signsP t))) (xOf (sumsR 3 (signsP t))) := by decide +kernel
end Mine
end

section
open PySem PySem.W PyProof.Rows PySem.Calls
set_option autoImplicit false
set_option maxRecDepth 100000
namespace Mine

theorem mem_zip {f : Int → Int → Int} : ∀ {a b : List Int} {w : Int}, w ∈ List.zipWith f a b → ∃ p ∈ a, ∃ q ∈ b, w = f p q
  | [], _, _, h => by cases h
  | _ :: _, [], _, h => by cases h
  | x :: a, y :: b, w, h => by
    rcases List.mem_cons.mp h with h | h
    · exact ⟨x, List.mem_cons_self, y, List.mem_cons_self, h⟩
    · obtain ⟨p, hp, q, hq, e⟩ := mem_zip h
      exact ⟨p, List.mem_cons_of_mem _ hp, q, List.mem_cons_of_mem _ hq, e⟩
theorem mem_sums {a : Nat} {t : List Int} {w : Int} (h : w ∈ sumsR (a + 1) t) : ∃ p ∈ sumsR a (t.take (2 ^ a)), ∃ q ∈ sumsR a (t.drop (2 ^ a)), w = p + q ∨ w = p - q := by
  rcases List.mem_append.mp h with h | h
  · obtain ⟨p, hp, q, hq, e⟩ := mem_zip h
    exact ⟨p, hp, q, hq, .inl e⟩
  · obtain ⟨p, hp, q, hq, e⟩ := mem_zip h
    exact ⟨p, hp, q, hq, .inr e⟩
theorem sum_two (a : Nat) (t : List Int) : t.sum = (t.take (2 ^ a)).sum + (t.drop (2 ^ a)).sum := by rw [← List.sum_append, List.take_append_drop]
theorem mod2 : ∀ (a : Nat) (t : List Int), t.length = 2 ^ a → ∀ w ∈ sumsR a t, (w - t.sum) % 2 = 0
  | 0, [x], _, w, h => by
    have e : w = x := List.mem_singleton.mp (show w ∈ [x] from h)
    rw [e]
    show (x - (x + 0)) % 2 = 0
    omega
  | a + 1, t, ht, w, h => by
    have e2 : 2 ^ (a + 1) = 2 ^ a + 2 ^ a := by rw [Nat.pow_succ]; omega
    obtain ⟨p, hp, q, hq, e⟩ := mem_sums h
    have h1 := mod2 a _ (by rw [List.length_take]; omega) p hp
    have h2 := mod2 a _ (by rw [List.length_drop]; omega) q hq
    rw [sum_two a t]
    omega
theorem sum_signs : ∀ (t : List Int), (signsP t).sum = t.length - 2 * t.sum
  | [] => rfl
  | x :: t => by
    have e : signsP (x :: t) = (1 - 2 * x) :: signsP t := rfl
    rw [e, List.sum_cons, sum_signs t, List.length_cons, List.sum_cons]
    omega
theorem step4 {w p q y z : Int} (e : w = p + q ∨ w = p - q) (h1 : (p - y) % 4 = 0) (h2 : (q - z) % 4 = 0) (h3 : z % 2 = 0) : (w - (y + z)) % 4 = 0 := by omega
theorem even4 {z l s : Int} (e : z = l - 2 * s) (h : l % 2 = 0) : z % 2 = 0 := by omega
theorem mod4 : ∀ (a : Nat) (t : List Int), t.length = 2 ^ (a + 2) → ∀ w ∈ sumsR (a + 2) (signsP t), (w - (signsP t).sum) % 4 = 0
  | 0, [x, y, z, v], _, w, h => by
    have e : sumsR 2 (signsP [x, y, z, v]) = [(1 - 2 * x + (1 - 2 * y)) + (1 - 2 * z + (1 - 2 * v)), (1 - 2 * x - (1 - 2 * y)) + (1 - 2 * z - (1 - 2 * v)), (1 - 2 * x + (1 - 2 * y)) - (1 - 2 * z + (1 - 2 * v)), (1 - 2 * x - (1 - 2 * y)) - (1 - 2 * z - (1 - 2 * v))] := rfl
    rw [e] at h
    have e3 : (signsP [x, y, z, v]).sum = 1 - 2 * x + (1 - 2 * y + (1 - 2 * z + (1 - 2 * v + 0))) := rfl
    rw [e3]
    simp only [List.mem_cons, List.not_mem_nil, or_false] at h
    omega
  | a + 1, t, ht, w, h => by
    have e2 : 2 ^ (a + 1 + 2) = 2 ^ (a + 2) + 2 ^ (a + 2) := by rw [show a + 1 + 2 = (a + 2) + 1 by omega, Nat.pow_succ]; omega
    have e4 : 2 ^ (a + 2) = 2 * 2 ^ (a + 1) := by rw [Nat.pow_succ]; omega
    obtain ⟨p, hp, q, hq, e⟩ := mem_sums h
    rw [signs_take] at hp
    rw [signs_drop] at hq
    have h1 := mod4 a _ (by rw [List.length_take]; omega) p hp
    have h2 := mod4 a _ (by rw [List.length_drop]; omega) q hq
    have h3 : ((t.drop (2 ^ (a + 2))).length : Int) % 2 = 0 := by rw [List.length_drop]; omega
    have h4 := sum_two (a + 2) (signsP t)
    rw [signs_take, signs_drop] at h4
    rw [h4]
    exact step4 e h1 h2 (even4 (sum_signs _) h3)
theorem dvd_sum {k : Int} : ∀ {l : List Int}, (∀ x ∈ l, k ∣ x) → k ∣ l.sum
  | [], _ => by simp
  | x :: l, h => by
    rw [List.sum_cons]
    exact Int.dvd_add (h x List.mem_cons_self) (dvd_sum fun y hy => h y (List.mem_cons_of_mem _ hy))
noncomputable def wv (x0 x1 x2 x3 x4 x5 x6 x7 x8 x9 x10 x11 x12 x13 x14 x15 : Int) : List Int := [(((((1 - 2 * x0) + (1 - 2 * x1)) + ((1 - 2 * x2) + (1 - 2 * x3))) + (((1 - 2 * x4) + (1 - 2 * x5)) + ((1 - 2 * x6) + (1 - 2 * x7)))) + ((((1 - 2 * x8) + (1 - 2 * x9)) + ((1 - 2 * x10) + (1 - 2 * x11))) + (((1 - 2 * x12) + (1 - 2 * x13)) + ((1 - 2 * x14) + (1 - 2 * x15))))), (((((1 - 2 * x0) - (1 - 2 * x1)) + ((1 - 2 * x2) - (1 - 2 * x3))) + (((1 - 2 * x4) - (1 - 2 * x5)) + ((1 - 2 * x6) - (1 - 2 * x7)))) + ((((1 - 2 * x8) - (1 - 2 * x9)) + ((1 - 2 * x10) - (1 - 2 * x11))) + (((1 - 2 * x12) - (1 - 2 * x13)) + ((1 - 2 * x14) - (1 - 2 * x15))))), (((((1 - 2 * x0) + (1 - 2 * x1)) - ((1 - 2 * x2) + (1 - 2 * x3))) + (((1 - 2 * x4) + (1 - 2 * x5)) - ((1 - 2 * x6) + (1 - 2 * x7)))) + ((((1 - 2 * x8) + (1 - 2 * x9)) - ((1 - 2 * x10) + (1 - 2 * x11))) + (((1 - 2 * x12) + (1 - 2 * x13)) - ((1 - 2 * x14) + (1 - 2 * x15))))), (((((1 - 2 * x0) - (1 - 2 * x1)) - ((1 - 2 * x2) - (1 - 2 * x3))) + (((1 - 2 * x4) - (1 - 2 * x5)) - ((1 - 2 * x6) - (1 - 2 * x7)))) + ((((1 - 2 * x8) - (1 - 2 * x9)) - ((1 - 2 * x10) - (1 - 2 * x11))) + (((1 - 2 * x12) - (1 - 2 * x13)) - ((1 - 2 * x14) - (1 - 2 * x15))))), (((((1 - 2 * x0) + (1 - 2 * x1)) + ((1 - 2 * x2) + (1 - 2 * x3))) - (((1 - 2 * x4) + (1 - 2 * x5)) + ((1 - 2 * x6) + (1 - 2 * x7)))) + ((((1 - 2 * x8) + (1 - 2 * x9)) + ((1 - 2 * x10) + (1 - 2 * x11))) - (((1 - 2 * x12) + (1 - 2 * x13)) + ((1 - 2 * x14) + (1 - 2 * x15))))), (((((1 - 2 * x0) - (1 - 2 * x1)) + ((1 - 2 * x2) - (1 - 2 * x3))) - (((1 - 2 * x4) - (1 - 2 * x5)) + ((1 - 2 * x6) - (1 - 2 * x7)))) + ((((1 - 2 * x8) - (1 - 2 * x9)) + ((1 - 2 * x10) - (1 - 2 * x11))) - (((1 - 2 * x12) - (1 - 2 * x13)) + ((1 - 2 * x14) - (1 - 2 * x15))))), (((((1 - 2 * x0) + (1 - 2 * x1)) - ((1 - 2 * x2) + (1 - 2 * x3))) - (((1 - 2 * x4) + (1 - 2 * x5)) - ((1 - 2 * x6) + (1 - 2 * x7)))) + ((((1 - 2 * x8) + (1 - 2 * x9)) - ((1 - 2 * x10) + (1 - 2 * x11))) - (((1 - 2 * x12) + (1 - 2 * x13)) - ((1 - 2 * x14) + (1 - 2 * x15))))), (((((1 - 2 * x0) - (1 - 2 * x1)) - ((1 - 2 * x2) - (1 - 2 * x3))) - (((1 - 2 * x4) - (1 - 2 * x5)) - ((1 - 2 * x6) - (1 - 2 * x7)))) + ((((1 - 2 * x8) - (1 - 2 * x9)) - ((1 - 2 * x10) - (1 - 2 * x11))) - (((1 - 2 * x12) - (1 - 2 * x13)) - ((1 - 2 * x14) - (1 - 2 * x15))))), (((((1 - 2 * x0) + (1 - 2 * x1)) + ((1 - 2 * x2) + (1 - 2 * x3))) + (((1 - 2 * x4) + (1 - 2 * x5)) + ((1 - 2 * x6) + (1 - 2 * x7)))) - ((((1 - 2 * x8) + (1 - 2 * x9)) + ((1 - 2 * x10) + (1 - 2 * x11))) + (((1 - 2 * x12) + (1 - 2 * x13)) + ((1 - 2 * x14) + (1 - 2 * x15))))), (((((1 - 2 * x0) - (1 - 2 * x1)) + ((1 - 2 * x2) - (1 - 2 * x3))) + (((1 - 2 * x4) - (1 - 2 * x5)) + ((1 - 2 * x6) - (1 - 2 * x7)))) - ((((1 - 2 * x8) - (1 - 2 * x9)) + ((1 - 2 * x10) - (1 - 2 * x11))) + (((1 - 2 * x12) - (1 - 2 * x13)) + ((1 - 2 * x14) - (1 - 2 * x15))))), (((((1 - 2 * x0) + (1 - 2 * x1)) - ((1 - 2 * x2) + (1 - 2 * x3))) + (((1 - 2 * x4) + (1 - 2 * x5)) - ((1 - 2 * x6) + (1 - 2 * x7)))) - ((((1 - 2 * x8) + (1 - 2 * x9)) - ((1 - 2 * x10) + (1 - 2 * x11))) + (((1 - 2 * x12) + (1 - 2 * x13)) - ((1 - 2 * x14) + (1 - 2 * x15))))), (((((1 - 2 * x0) - (1 - 2 * x1)) - ((1 - 2 * x2) - (1 - 2 * x3))) + (((1 - 2 * x4) - (1 - 2 * x5)) - ((1 - 2 * x6) - (1 - 2 * x7)))) - ((((1 - 2 * x8) - (1 - 2 * x9)) - ((1 - 2 * x10) - (1 - 2 * x11))) + (((1 - 2 * x12) - (1 - 2 * x13)) - ((1 - 2 * x14) - (1 - 2 * x15))))), (((((1 - 2 * x0) + (1 - 2 * x1)) + ((1 - 2 * x2) + (1 - 2 * x3))) - (((1 - 2 * x4) + (1 - 2 * x5)) + ((1 - 2 * x6) + (1 - 2 * x7)))) - ((((1 - 2 * x8) + (1 - 2 * x9)) + ((1 - 2 * x10) + (1 - 2 * x11))) - (((1 - 2 * x12) + (1 - 2 * x13)) + ((1 - 2 * x14) + (1 - 2 * x15))))), (((((1 - 2 * x0) - (1 - 2 * x1)) + ((1 - 2 * x2) - (1 - 2 * x3))) - (((1 - 2 * x4) - (1 - 2 * x5)) + ((1 - 2 * x6) - (1 - 2 * x7)))) - ((((1 - 2 * x8) - (1 - 2 * x9)) + ((1 - 2 * x10) - (1 - 2 * x11))) - (((1 - 2 * x12) - (1 - 2 * x13)) + ((1 - 2 * x14) - (1 - 2 * x15))))), (((((1 - 2 * x0) + (1 - 2 * x1)) - ((1 - 2 * x2) + (1 - 2 * x3))) - (((1 - 2 * x4) + (1 - 2 * x5)) - ((1 - 2 * x6) + (1 - 2 * x7)))) - ((((1 - 2 * x8) + (1 - 2 * x9)) - ((1 - 2 * x10) + (1 - 2 * x11))) - (((1 - 2 * x12) + (1 - 2 * x13)) - ((1 - 2 * x14) + (1 - 2 * x15))))), (((((1 - 2 * x0) - (1 - 2 * x1)) - ((1 - 2 * x2) - (1 - 2 * x3))) - (((1 - 2 * x4) - (1 - 2 * x5)) - ((1 - 2 * x6) - (1 - 2 * x7)))) - ((((1 - 2 * x8) - (1 - 2 * x9)) - ((1 - 2 * x10) - (1 - 2 * x11))) - (((1 - 2 * x12) - (1 - 2 * x13)) - ((1 - 2 * x14) - (1 - 2 * x15)))))]
noncomputable def av (x0 x1 x2 x3 x4 x5 x6 x7 x8 x9 x10 x11 x12 x13 x14 x15 : Int) : List Int := [x0, (x1 - x0), (x2 - x0), ((x3 - x2) - (x1 - x0)), (x4 - x0), ((x5 - x4) - (x1 - x0)), ((x6 - x4) - (x2 - x0)), (((x7 - x6) - (x5 - x4)) - ((x3 - x2) - (x1 - x0))), (x8 - x0), ((x9 - x8) - (x1 - x0)), ((x10 - x8) - (x2 - x0)), (((x11 - x10) - (x9 - x8)) - ((x3 - x2) - (x1 - x0))), ((x12 - x8) - (x4 - x0)), (((x13 - x12) - (x9 - x8)) - ((x5 - x4) - (x1 - x0))), (((x14 - x12) - (x10 - x8)) - ((x6 - x4) - (x2 - x0))), ((((x15 - x14) - (x13 - x12)) - ((x11 - x10) - (x9 - x8))) - (((x7 - x6) - (x5 - x4)) - ((x3 - x2) - (x1 - x0))))]
theorem wv_eq (x0 x1 x2 x3 x4 x5 x6 x7 x8 x9 x10 x11 x12 x13 x14 x15 : Int) : sumsR 4 (signsP [x0, x1, x2, x3, x4, x5, x6, x7, x8, x9, x10, x11, x12, x13, x14, x15]) = wv x0 x1 x2 x3 x4 x5 x6 x7 x8 x9 x10 x11 x12 x13 x14 x15 := by kernel_rfl
theorem ev16 (x0 x1 x2 x3 x4 x5 x6 x7 x8 x9 x10 x11 x12 x13 x14 x15 : Int) (h : ((((x15 - x14) - (x13 - x12)) - ((x11 - x10) - (x9 - x8))) - (((x7 - x6) - (x5 - x4)) - ((x3 - x2) - (x1 - x0)))) % 2 = 0) : (x0 + x1 + x2 + x3 + x4 + x5 + x6 + x7 + x8 + x9 + x10 + x11 + x12 + x13 + x14 + x15) % 2 = 0 := by omega
theorem sum16 (x0 x1 x2 x3 x4 x5 x6 x7 x8 x9 x10 x11 x12 x13 x14 x15 : Int) : [x0, x1, x2, x3, x4, x5, x6, x7, x8, x9, x10, x11, x12, x13, x14, x15].sum = x0 + x1 + x2 + x3 + x4 + x5 + x6 + x7 + x8 + x9 + x10 + x11 + x12 + x13 + x14 + x15 := by simp only [List.sum_cons, List.sum_nil]; omega
theorem av_eq (x0 x1 x2 x3 x4 x5 x6 x7 x8 x9 x10 x11 x12 x13 x14 x15 : Int) : withinR 4 [x0, x1, x2, x3, x4, x5, x6, x7, x8, x9, x10, x11, x12, x13, x14, x15] = av x0 x1 x2 x3 x4 x5 x6 x7 x8 x9 x10 x11 x12 x13 x14 x15 := by kernel_rfl
section
variable (x0 x1 x2 x3 x4 x5 x6 x7 x8 x9 x10 x11 x12 x13 x14 x15 : Int)
theorem all2 : ∀ w ∈ wv x0 x1 x2 x3 x4 x5 x6 x7 x8 x9 x10 x11 x12 x13 x14 x15, (2 : Int) ∣ w := by
  intro w hw
  rw [← wv_eq] at hw
  have h := mod2 4 _ rfl w hw
  rw [sum_signs] at h
  generalize List.sum (α := Int) _ = z at h
  simp only [List.length_cons, List.length_nil] at h
  omega
theorem all4 (h0 : ((((x15 - x14) - (x13 - x12)) - ((x11 - x10) - (x9 - x8))) - (((x7 - x6) - (x5 - x4)) - ((x3 - x2) - (x1 - x0)))) % 2 = 0) : ∀ w ∈ wv x0 x1 x2 x3 x4 x5 x6 x7 x8 x9 x10 x11 x12 x13 x14 x15, (4 : Int) ∣ w := by
  intro w hw
  rw [← wv_eq] at hw
  have h := mod4 2 _ rfl w hw
  have h2 : ([x0, x1, x2, x3, x4, x5, x6, x7, x8, x9, x10, x11, x12, x13, x14, x15] : List Int).sum % 2 = 0 := by rw [sum16]; exact ev16 x0 x1 x2 x3 x4 x5 x6 x7 x8 x9 x10 x11 x12 x13 x14 x15 h0
  rw [sum_signs] at h
  generalize List.sum (α := Int) _ = z at h h2
  simp only [List.length_cons, List.length_nil] at h
  omega
theorem no4 (h : ((((x15 - x14) - (x13 - x12)) - ((x11 - x10) - (x9 - x8))) - (((x7 - x6) - (x5 - x4)) - ((x3 - x2) - (x1 - x0)))) % 2 = 1) : ¬ (4 : Int) ∣ (((((1 - 2 * x0) + (1 - 2 * x1)) + ((1 - 2 * x2) + (1 - 2 * x3))) + (((1 - 2 * x4) + (1 - 2 * x5)) + ((1 - 2 * x6) + (1 - 2 * x7)))) + ((((1 - 2 * x8) + (1 - 2 * x9)) + ((1 - 2 * x10) + (1 - 2 * x11))) + (((1 - 2 * x12) + (1 - 2 * x13)) + ((1 - 2 * x14) + (1 - 2 * x15))))) := by omega
theorem no8a7 (h : (((x7 - x6) - (x5 - x4)) - ((x3 - x2) - (x1 - x0))) % 2 = 1) : ¬ ((8 : Int) ∣ (((((1 - 2 * x0) + (1 - 2 * x1)) + ((1 - 2 * x2) + (1 - 2 * x3))) + (((1 - 2 * x4) + (1 - 2 * x5)) + ((1 - 2 * x6) + (1 - 2 * x7)))) + ((((1 - 2 * x8) + (1 - 2 * x9)) + ((1 - 2 * x10) + (1 - 2 * x11))) + (((1 - 2 * x12) + (1 - 2 * x13)) + ((1 - 2 * x14) + (1 - 2 * x15))))) ∧ (8 : Int) ∣ (((((1 - 2 * x0) + (1 - 2 * x1)) + ((1 - 2 * x2) + (1 - 2 * x3))) + (((1 - 2 * x4) + (1 - 2 * x5)) + ((1 - 2 * x6) + (1 - 2 * x7)))) - ((((1 - 2 * x8) + (1 - 2 * x9)) + ((1 - 2 * x10) + (1 - 2 * x11))) + (((1 - 2 * x12) + (1 - 2 * x13)) + ((1 - 2 * x14) + (1 - 2 * x15)))))) := by omega
theorem no8b7 (h : (((x7 - x6) - (x5 - x4)) - ((x3 - x2) - (x1 - x0))) % 2 = 1) (h1 : ((((((1 - 2 * x0) + (1 - 2 * x1)) + ((1 - 2 * x2) + (1 - 2 * x3))) + (((1 - 2 * x4) + (1 - 2 * x5)) + ((1 - 2 * x6) + (1 - 2 * x7)))) + ((((1 - 2 * x8) + (1 - 2 * x9)) + ((1 - 2 * x10) + (1 - 2 * x11))) + (((1 - 2 * x12) + (1 - 2 * x13)) + ((1 - 2 * x14) + (1 - 2 * x15)))))).natAbs = 4) (h2 : ((((((1 - 2 * x0) + (1 - 2 * x1)) + ((1 - 2 * x2) + (1 - 2 * x3))) + (((1 - 2 * x4) + (1 - 2 * x5)) + ((1 - 2 * x6) + (1 - 2 * x7)))) - ((((1 - 2 * x8) + (1 - 2 * x9)) + ((1 - 2 * x10) + (1 - 2 * x11))) + (((1 - 2 * x12) + (1 - 2 * x13)) + ((1 - 2 * x14) + (1 - 2 * x15)))))).natAbs = 4) : False := by omega
theorem no8a11 (h : (((x11 - x10) - (x9 - x8)) - ((x3 - x2) - (x1 - x0))) % 2 = 1) : ¬ ((8 : Int) ∣ (((((1 - 2 * x0) + (1 - 2 * x1)) + ((1 - 2 * x2) + (1 - 2 * x3))) + (((1 - 2 * x4) + (1 - 2 * x5)) + ((1 - 2 * x6) + (1 - 2 * x7)))) + ((((1 - 2 * x8) + (1 - 2 * x9)) + ((1 - 2 * x10) + (1 - 2 * x11))) + (((1 - 2 * x12) + (1 - 2 * x13)) + ((1 - 2 * x14) + (1 - 2 * x15))))) ∧ (8 : Int) ∣ (((((1 - 2 * x0) + (1 - 2 * x1)) + ((1 - 2 * x2) + (1 - 2 * x3))) - (((1 - 2 * x4) + (1 - 2 * x5)) + ((1 - 2 * x6) + (1 - 2 * x7)))) + ((((1 - 2 * x8) + (1 - 2 * x9)) + ((1 - 2 * x10) + (1 - 2 * x11))) - (((1 - 2 * x12) + (1 - 2 * x13)) + ((1 - 2 * x14) + (1 - 2 * x15)))))) := by omega
theorem no8b11 (h : (((x11 - x10) - (x9 - x8)) - ((x3 - x2) - (x1 - x0))) % 2 = 1) (h1 : ((((((1 - 2 * x0) + (1 - 2 * x1)) + ((1 - 2 * x2) + (1 - 2 * x3))) + (((1 - 2 * x4) + (1 - 2 * x5)) + ((1 - 2 * x6) + (1 - 2 * x7)))) + ((((1 - 2 * x8) + (1 - 2 * x9)) + ((1 - 2 * x10) + (1 - 2 * x11))) + (((1 - 2 * x12) + (1 - 2 * x13)) + ((1 - 2 * x14) + (1 - 2 * x15)))))).natAbs = 4) (h2 : ((((((1 - 2 * x0) + (1 - 2 * x1)) + ((1 - 2 * x2) + (1 - 2 * x3))) - (((1 - 2 * x4) + (1 - 2 * x5)) + ((1 - 2 * x6) + (1 - 2 * x7)))) + ((((1 - 2 * x8) + (1 - 2 * x9)) + ((1 - 2 * x10) + (1 - 2 * x11))) - (((1 - 2 * x12) + (1 - 2 * x13)) + ((1 - 2 * x14) + (1 - 2 * x15)))))).natAbs = 4) : False := by omega
theorem no8a13 (h : (((x13 - x12) - (x9 - x8)) - ((x5 - x4) - (x1 - x0))) % 2 = 1) : ¬ ((8 : Int) ∣ (((((1 - 2 * x0) + (1 - 2 * x1)) + ((1 - 2 * x2) + (1 - 2 * x3))) + (((1 - 2 * x4) + (1 - 2 * x5)) + ((1 - 2 * x6) + (1 - 2 * x7)))) + ((((1 - 2 * x8) + (1 - 2 * x9)) + ((1 - 2 * x10) + (1 - 2 * x11))) + (((1 - 2 * x12) + (1 - 2 * x13)) + ((1 - 2 * x14) + (1 - 2 * x15))))) ∧ (8 : Int) ∣ (((((1 - 2 * x0) + (1 - 2 * x1)) - ((1 - 2 * x2) + (1 - 2 * x3))) + (((1 - 2 * x4) + (1 - 2 * x5)) - ((1 - 2 * x6) + (1 - 2 * x7)))) + ((((1 - 2 * x8) + (1 - 2 * x9)) - ((1 - 2 * x10) + (1 - 2 * x11))) + (((1 - 2 * x12) + (1 - 2 * x13)) - ((1 - 2 * x14) + (1 - 2 * x15)))))) := by omega
theorem no8b13 (h : (((x13 - x12) - (x9 - x8)) - ((x5 - x4) - (x1 - x0))) % 2 = 1) (h1 : ((((((1 - 2 * x0) + (1 - 2 * x1)) + ((1 - 2 * x2) + (1 - 2 * x3))) + (((1 - 2 * x4) + (1 - 2 * x5)) + ((1 - 2 * x6) + (1 - 2 * x7)))) + ((((1 - 2 * x8) + (1 - 2 * x9)) + ((1 - 2 * x10) + (1 - 2 * x11))) + (((1 - 2 * x12) + (1 - 2 * x13)) + ((1 - 2 * x14) + (1 - 2 * x15)))))).natAbs = 4) (h2 : ((((((1 - 2 * x0) + (1 - 2 * x1)) - ((1 - 2 * x2) + (1 - 2 * x3))) + (((1 - 2 * x4) + (1 - 2 * x5)) - ((1 - 2 * x6) + (1 - 2 * x7)))) + ((((1 - 2 * x8) + (1 - 2 * x9)) - ((1 - 2 * x10) + (1 - 2 * x11))) + (((1 - 2 * x12) + (1 - 2 * x13)) - ((1 - 2 * x14) + (1 - 2 * x15)))))).natAbs = 4) : False := by omega
theorem no8a14 (h : (((x14 - x12) - (x10 - x8)) - ((x6 - x4) - (x2 - x0))) % 2 = 1) : ¬ ((8 : Int) ∣ (((((1 - 2 * x0) + (1 - 2 * x1)) + ((1 - 2 * x2) + (1 - 2 * x3))) + (((1 - 2 * x4) + (1 - 2 * x5)) + ((1 - 2 * x6) + (1 - 2 * x7)))) + ((((1 - 2 * x8) + (1 - 2 * x9)) + ((1 - 2 * x10) + (1 - 2 * x11))) + (((1 - 2 * x12) + (1 - 2 * x13)) + ((1 - 2 * x14) + (1 - 2 * x15))))) ∧ (8 : Int) ∣ (((((1 - 2 * x0) - (1 - 2 * x1)) + ((1 - 2 * x2) - (1 - 2 * x3))) + (((1 - 2 * x4) - (1 - 2 * x5)) + ((1 - 2 * x6) - (1 - 2 * x7)))) + ((((1 - 2 * x8) - (1 - 2 * x9)) + ((1 - 2 * x10) - (1 - 2 * x11))) + (((1 - 2 * x12) - (1 - 2 * x13)) + ((1 - 2 * x14) - (1 - 2 * x15)))))) := by omega
theorem no8b14 (h : (((x14 - x12) - (x10 - x8)) - ((x6 - x4) - (x2 - x0))) % 2 = 1) (h1 : ((((((1 - 2 * x0) + (1 - 2 * x1)) + ((1 - 2 * x2) + (1 - 2 * x3))) + (((1 - 2 * x4) + (1 - 2 * x5)) + ((1 - 2 * x6) + (1 - 2 * x7)))) + ((((1 - 2 * x8) + (1 - 2 * x9)) + ((1 - 2 * x10) + (1 - 2 * x11))) + (((1 - 2 * x12) + (1 - 2 * x13)) + ((1 - 2 * x14) + (1 - 2 * x15)))))).natAbs = 4) (h2 : ((((((1 - 2 * x0) - (1 - 2 * x1)) + ((1 - 2 * x2) - (1 - 2 * x3))) + (((1 - 2 * x4) - (1 - 2 * x5)) + ((1 - 2 * x6) - (1 - 2 * x7)))) + ((((1 - 2 * x8) - (1 - 2 * x9)) + ((1 - 2 * x10) - (1 - 2 * x11))) + (((1 - 2 * x12) - (1 - 2 * x13)) + ((1 - 2 * x14) - (1 - 2 * x15)))))).natAbs = 4) : False := by omega
theorem no16c3 (h : ((x3 - x2) - (x1 - x0)) % 2 = 1) : ¬ ((16 : Int) ∣ (((((1 - 2 * x0) + (1 - 2 * x1)) + ((1 - 2 * x2) + (1 - 2 * x3))) + (((1 - 2 * x4) + (1 - 2 * x5)) + ((1 - 2 * x6) + (1 - 2 * x7)))) + ((((1 - 2 * x8) + (1 - 2 * x9)) + ((1 - 2 * x10) + (1 - 2 * x11))) + (((1 - 2 * x12) + (1 - 2 * x13)) + ((1 - 2 * x14) + (1 - 2 * x15))))) ∧ (16 : Int) ∣ (((((1 - 2 * x0) + (1 - 2 * x1)) + ((1 - 2 * x2) + (1 - 2 * x3))) - (((1 - 2 * x4) + (1 - 2 * x5)) + ((1 - 2 * x6) + (1 - 2 * x7)))) + ((((1 - 2 * x8) + (1 - 2 * x9)) + ((1 - 2 * x10) + (1 - 2 * x11))) - (((1 - 2 * x12) + (1 - 2 * x13)) + ((1 - 2 * x14) + (1 - 2 * x15))))) ∧ (16 : Int) ∣ (((((1 - 2 * x0) + (1 - 2 * x1)) + ((1 - 2 * x2) + (1 - 2 * x3))) + (((1 - 2 * x4) + (1 - 2 * x5)) + ((1 - 2 * x6) + (1 - 2 * x7)))) - ((((1 - 2 * x8) + (1 - 2 * x9)) + ((1 - 2 * x10) + (1 - 2 * x11))) + (((1 - 2 * x12) + (1 - 2 * x13)) + ((1 - 2 * x14) + (1 - 2 * x15))))) ∧ (16 : Int) ∣ (((((1 - 2 * x0) + (1 - 2 * x1)) + ((1 - 2 * x2) + (1 - 2 * x3))) - (((1 - 2 * x4) + (1 - 2 * x5)) + ((1 - 2 * x6) + (1 - 2 * x7)))) - ((((1 - 2 * x8) + (1 - 2 * x9)) + ((1 - 2 * x10) + (1 - 2 * x11))) - (((1 - 2 * x12) + (1 - 2 * x13)) + ((1 - 2 * x14) + (1 - 2 * x15)))))) := by omega
theorem no16c5 (h : ((x5 - x4) - (x1 - x0)) % 2 = 1) : ¬ ((16 : Int) ∣ (((((1 - 2 * x0) + (1 - 2 * x1)) + ((1 - 2 * x2) + (1 - 2 * x3))) + (((1 - 2 * x4) + (1 - 2 * x5)) + ((1 - 2 * x6) + (1 - 2 * x7)))) + ((((1 - 2 * x8) + (1 - 2 * x9)) + ((1 - 2 * x10) + (1 - 2 * x11))) + (((1 - 2 * x12) + (1 - 2 * x13)) + ((1 - 2 * x14) + (1 - 2 * x15))))) ∧ (16 : Int) ∣ (((((1 - 2 * x0) + (1 - 2 * x1)) - ((1 - 2 * x2) + (1 - 2 * x3))) + (((1 - 2 * x4) + (1 - 2 * x5)) - ((1 - 2 * x6) + (1 - 2 * x7)))) + ((((1 - 2 * x8) + (1 - 2 * x9)) - ((1 - 2 * x10) + (1 - 2 * x11))) + (((1 - 2 * x12) + (1 - 2 * x13)) - ((1 - 2 * x14) + (1 - 2 * x15))))) ∧ (16 : Int) ∣ (((((1 - 2 * x0) + (1 - 2 * x1)) + ((1 - 2 * x2) + (1 - 2 * x3))) + (((1 - 2 * x4) + (1 - 2 * x5)) + ((1 - 2 * x6) + (1 - 2 * x7)))) - ((((1 - 2 * x8) + (1 - 2 * x9)) + ((1 - 2 * x10) + (1 - 2 * x11))) + (((1 - 2 * x12) + (1 - 2 * x13)) + ((1 - 2 * x14) + (1 - 2 * x15))))) ∧ (16 : Int) ∣ (((((1 - 2 * x0) + (1 - 2 * x1)) - ((1 - 2 * x2) + (1 - 2 * x3))) + (((1 - 2 * x4) + (1 - 2 * x5)) - ((1 - 2 * x6) + (1 - 2 * x7)))) - ((((1 - 2 * x8) + (1 - 2 * x9)) - ((1 - 2 * x10) + (1 - 2 * x11))) + (((1 - 2 * x12) + (1 - 2 * x13)) - ((1 - 2 * x14) + (1 - 2 * x15)))))) := by omega
theorem no16c6 (h : ((x6 - x4) - (x2 - x0)) % 2 = 1) : ¬ ((16 : Int) ∣ (((((1 - 2 * x0) + (1 - 2 * x1)) + ((1 - 2 * x2) + (1 - 2 * x3))) + (((1 - 2 * x4) + (1 - 2 * x5)) + ((1 - 2 * x6) + (1 - 2 * x7)))) + ((((1 - 2 * x8) + (1 - 2 * x9)) + ((1 - 2 * x10) + (1 - 2 * x11))) + (((1 - 2 * x12) + (1 - 2 * x13)) + ((1 - 2 * x14) + (1 - 2 * x15))))) ∧ (16 : Int) ∣ (((((1 - 2 * x0) - (1 - 2 * x1)) + ((1 - 2 * x2) - (1 - 2 * x3))) + (((1 - 2 * x4) - (1 - 2 * x5)) + ((1 - 2 * x6) - (1 - 2 * x7)))) + ((((1 - 2 * x8) - (1 - 2 * x9)) + ((1 - 2 * x10) - (1 - 2 * x11))) + (((1 - 2 * x12) - (1 - 2 * x13)) + ((1 - 2 * x14) - (1 - 2 * x15))))) ∧ (16 : Int) ∣ (((((1 - 2 * x0) + (1 - 2 * x1)) + ((1 - 2 * x2) + (1 - 2 * x3))) + (((1 - 2 * x4) + (1 - 2 * x5)) + ((1 - 2 * x6) + (1 - 2 * x7)))) - ((((1 - 2 * x8) + (1 - 2 * x9)) + ((1 - 2 * x10) + (1 - 2 * x11))) + (((1 - 2 * x12) + (1 - 2 * x13)) + ((1 - 2 * x14) + (1 - 2 * x15))))) ∧ (16 : Int) ∣ (((((1 - 2 * x0) - (1 - 2 * x1)) + ((1 - 2 * x2) - (1 - 2 * x3))) + (((1 - 2 * x4) - (1 - 2 * x5)) + ((1 - 2 * x6) - (1 - 2 * x7)))) - ((((1 - 2 * x8) - (1 - 2 * x9)) + ((1 - 2 * x10) - (1 - 2 * x11))) + (((1 - 2 * x12) - (1 - 2 * x13)) + ((1 - 2 * x14) - (1 - 2 * x15)))))) := by omega
theorem no16c9 (h : ((x9 - x8) - (x1 - x0)) % 2 = 1) : ¬ ((16 : Int) ∣ (((((1 - 2 * x0) + (1 - 2 * x1)) + ((1 - 2 * x2) + (1 - 2 * x3))) + (((1 - 2 * x4) + (1 - 2 * x5)) + ((1 - 2 * x6) + (1 - 2 * x7)))) + ((((1 - 2 * x8) + (1 - 2 * x9)) + ((1 - 2 * x10) + (1 - 2 * x11))) + (((1 - 2 * x12) + (1 - 2 * x13)) + ((1 - 2 * x14) + (1 - 2 * x15))))) ∧ (16 : Int) ∣ (((((1 - 2 * x0) + (1 - 2 * x1)) - ((1 - 2 * x2) + (1 - 2 * x3))) + (((1 - 2 * x4) + (1 - 2 * x5)) - ((1 - 2 * x6) + (1 - 2 * x7)))) + ((((1 - 2 * x8) + (1 - 2 * x9)) - ((1 - 2 * x10) + (1 - 2 * x11))) + (((1 - 2 * x12) + (1 - 2 * x13)) - ((1 - 2 * x14) + (1 - 2 * x15))))) ∧ (16 : Int) ∣ (((((1 - 2 * x0) + (1 - 2 * x1)) + ((1 - 2 * x2) + (1 - 2 * x3))) - (((1 - 2 * x4) + (1 - 2 * x5)) + ((1 - 2 * x6) + (1 - 2 * x7)))) + ((((1 - 2 * x8) + (1 - 2 * x9)) + ((1 - 2 * x10) + (1 - 2 * x11))) - (((1 - 2 * x12) + (1 - 2 * x13)) + ((1 - 2 * x14) + (1 - 2 * x15))))) ∧ (16 : Int) ∣ (((((1 - 2 * x0) + (1 - 2 * x1)) - ((1 - 2 * x2) + (1 - 2 * x3))) - (((1 - 2 * x4) + (1 - 2 * x5)) - ((1 - 2 * x6) + (1 - 2 * x7)))) + ((((1 - 2 * x8) + (1 - 2 * x9)) - ((1 - 2 * x10) + (1 - 2 * x11))) - (((1 - 2 * x12) + (1 - 2 * x13)) - ((1 - 2 * x14) + (1 - 2 * x15)))))) := by omega
theorem no16c10 (h : ((x10 - x8) - (x2 - x0)) % 2 = 1) : ¬ ((16 : Int) ∣ (((((1 - 2 * x0) + (1 - 2 * x1)) + ((1 - 2 * x2) + (1 - 2 * x3))) + (((1 - 2 * x4) + (1 - 2 * x5)) + ((1 - 2 * x6) + (1 - 2 * x7)))) + ((((1 - 2 * x8) + (1 - 2 * x9)) + ((1 - 2 * x10) + (1 - 2 * x11))) + (((1 - 2 * x12) + (1 - 2 * x13)) + ((1 - 2 * x14) + (1 - 2 * x15))))) ∧ (16 : Int) ∣ (((((1 - 2 * x0) - (1 - 2 * x1)) + ((1 - 2 * x2) - (1 - 2 * x3))) + (((1 - 2 * x4) - (1 - 2 * x5)) + ((1 - 2 * x6) - (1 - 2 * x7)))) + ((((1 - 2 * x8) - (1 - 2 * x9)) + ((1 - 2 * x10) - (1 - 2 * x11))) + (((1 - 2 * x12) - (1 - 2 * x13)) + ((1 - 2 * x14) - (1 - 2 * x15))))) ∧ (16 : Int) ∣ (((((1 - 2 * x0) + (1 - 2 * x1)) + ((1 - 2 * x2) + (1 - 2 * x3))) - (((1 - 2 * x4) + (1 - 2 * x5)) + ((1 - 2 * x6) + (1 - 2 * x7)))) + ((((1 - 2 * x8) + (1 - 2 * x9)) + ((1 - 2 * x10) + (1 - 2 * x11))) - (((1 - 2 * x12) + (1 - 2 * x13)) + ((1 - 2 * x14) + (1 - 2 * x15))))) ∧ (16 : Int) ∣ (((((1 - 2 * x0) - (1 - 2 * x1)) + ((1 - 2 * x2) - (1 - 2 * x3))) - (((1 - 2 * x4) - (1 - 2 * x5)) + ((1 - 2 * x6) - (1 - 2 * x7)))) + ((((1 - 2 * x8) - (1 - 2 * x9)) + ((1 - 2 * x10) - (1 - 2 * x11))) - (((1 - 2 * x12) - (1 - 2 * x13)) + ((1 - 2 * x14) - (1 - 2 * x15)))))) := by omega
theorem no16c12 (h : ((x12 - x8) - (x4 - x0)) % 2 = 1) : ¬ ((16 : Int) ∣ (((((1 - 2 * x0) + (1 - 2 * x1)) + ((1 - 2 * x2) + (1 - 2 * x3))) + (((1 - 2 * x4) + (1 - 2 * x5)) + ((1 - 2 * x6) + (1 - 2 * x7)))) + ((((1 - 2 * x8) + (1 - 2 * x9)) + ((1 - 2 * x10) + (1 - 2 * x11))) + (((1 - 2 * x12) + (1 - 2 * x13)) + ((1 - 2 * x14) + (1 - 2 * x15))))) ∧ (16 : Int) ∣ (((((1 - 2 * x0) - (1 - 2 * x1)) + ((1 - 2 * x2) - (1 - 2 * x3))) + (((1 - 2 * x4) - (1 - 2 * x5)) + ((1 - 2 * x6) - (1 - 2 * x7)))) + ((((1 - 2 * x8) - (1 - 2 * x9)) + ((1 - 2 * x10) - (1 - 2 * x11))) + (((1 - 2 * x12) - (1 - 2 * x13)) + ((1 - 2 * x14) - (1 - 2 * x15))))) ∧ (16 : Int) ∣ (((((1 - 2 * x0) + (1 - 2 * x1)) - ((1 - 2 * x2) + (1 - 2 * x3))) + (((1 - 2 * x4) + (1 - 2 * x5)) - ((1 - 2 * x6) + (1 - 2 * x7)))) + ((((1 - 2 * x8) + (1 - 2 * x9)) - ((1 - 2 * x10) + (1 - 2 * x11))) + (((1 - 2 * x12) + (1 - 2 * x13)) - ((1 - 2 * x14) + (1 - 2 * x15))))) ∧ (16 : Int) ∣ (((((1 - 2 * x0) - (1 - 2 * x1)) - ((1 - 2 * x2) - (1 - 2 * x3))) + (((1 - 2 * x4) - (1 - 2 * x5)) - ((1 - 2 * x6) - (1 - 2 * x7)))) + ((((1 - 2 * x8) - (1 - 2 * x9)) - ((1 - 2 * x10) - (1 - 2 * x11))) + (((1 - 2 * x12) - (1 - 2 * x13)) - ((1 - 2 * x14) - (1 - 2 * x15)))))) := by omega
theorem no32 (h : ∀ w ∈ wv x0 x1 x2 x3 x4 x5 x6 x7 x8 x9 x10 x11 x12 x13 x14 x15, (32 : Int) ∣ w) : False := by
  have hs : (32 : Int) ∣ (wv x0 x1 x2 x3 x4 x5 x6 x7 x8 x9 x10 x11 x12 x13 x14 x15).sum := dvd_sum h
  have e : (wv x0 x1 x2 x3 x4 x5 x6 x7 x8 x9 x10 x11 x12 x13 x14 x15).sum = 16 - 32 * x0 := by
    unfold wv
    simp only [List.sum_cons, List.sum_nil]
    omega
  omega
end
end Mine
end

section
open PySem PySem.W PyProof.Rows PySem.Calls
set_option autoImplicit false
set_option maxRecDepth 100000
namespace Mine

theorem oddL_mem {l : List Int} {n : Nat} {x : Int} : x ∈ oddL l n ↔ ∃ u, u < l.length ∧ l.getD u 0 % 2 = 1 ∧ x = (bitsK u n).sum := by
  unfold oddL
  constructor
  · intro h
    obtain ⟨p, hp, rfl⟩ := List.mem_map.mp h
    obtain ⟨hp1, hp2⟩ := List.mem_filter.mp hp
    obtain ⟨z, u⟩ := p
    have h3 := List.mem_zipIdx hp1
    simp only [Nat.zero_add, Nat.sub_zero] at h3
    have e : l.getD u 0 = z := by rw [List.getD_eq_getElem?_getD, List.getElem?_eq_getElem h3.2.1, Option.getD_some]; exact h3.2.2.symm
    refine ⟨u, h3.2.1, ?_, rfl⟩
    rw [e]
    have h4 := of_decide_eq_true hp2
    rw [Int.fmod_eq_emod_of_nonneg _ (by decide)] at h4
    exact h4
  · intro ⟨u, hu, ho, hx⟩
    refine List.mem_map.mpr ⟨(l.getD u 0, u), List.mem_filter.mpr ⟨?_, ?_⟩, hx.symm⟩
    · refine List.mem_zipIdx_iff_getElem?.mpr ?_
      rw [List.getElem?_eq_getElem hu, List.getD_eq_getElem?_getD, List.getElem?_eq_getElem hu, Option.getD_some]
    · refine decide_eq_true ?_
      rw [Int.fmod_eq_emod_of_nonneg _ (by decide)]
      exact ho
theorem oddW_nil {W : List Int} {j : Nat} : oddW W j = [] ↔ ∀ x ∈ W, ((2 ^ (j + 1) : Nat) : Int) ∣ x := by
  unfold oddW
  rw [List.filter_eq_nil_iff]
  refine ⟨fun h x hx => ?_, fun h x hx => ?_⟩
  · have h1 := h x hx
    rw [Int.fmod_eq_emod_of_nonneg _ (Int.natCast_nonneg _)] at h1
    exact Int.dvd_of_emod_eq_zero (by simpa using h1)
  · have h1 := Int.emod_eq_zero_of_dvd (h x hx)
    rw [Int.fmod_eq_emod_of_nonneg _ (Int.natCast_nonneg _), h1]
    simp
theorem m_ex {W : List Int} : ∀ k, oddW W k ≠ [] → ∃ m, m ≤ k ∧ oddW W m ≠ [] ∧ ∀ j < m, oddW W j = [] := by
  intro k
  induction k using Nat.strongRecOn with
  | ind k ih =>
    intro hk
    by_cases h : ∃ j, j < k ∧ oddW W j ≠ []
    · obtain ⟨j, hj, hne⟩ := h
      obtain ⟨m, h1, h2⟩ := ih j hj hne
      exact ⟨m, by omega, h2⟩
    · exact ⟨k, Nat.le_refl _, hk, fun j hj => Classical.byContradiction fun hne => h ⟨j, hj, hne⟩⟩
theorem m_low {W : List Int} {m k : Nat} (hm : oddW W m ≠ []) (h : ∀ x ∈ W, ((2 ^ k : Nat) : Int) ∣ x) : k ≤ m := by
  refine Classical.byContradiction fun hn => hm (oddW_nil.mpr fun x hx => Int.dvd_trans ?_ (h x hx))
  exact Int.natCast_dvd_natCast.mpr (Nat.pow_dvd_pow 2 (by omega))
theorem m_high {W : List Int} {m k : Nat} (hm : ∀ j < m, oddW W j = []) (h : ¬ ∀ x ∈ W, ((2 ^ k : Nat) : Int) ∣ x) : m < k := by
  refine Classical.byContradiction fun hn => h fun x hx => ?_
  cases k with
  | zero => exact ⟨x, by simp⟩
  | succ k => exact oddW_nil.mp (hm k (by omega)) x hx
theorem mx_ex : ∀ {l : List Int}, l ≠ [] → ∃ mx, mx ∈ l ∧ ∀ x ∈ l, x ≤ mx
  | [], h => absurd rfl h
  | [x], _ => ⟨x, List.mem_singleton.mpr rfl, fun y hy => by rw [List.mem_singleton.mp hy]; exact Int.le_refl _⟩
  | x :: y :: l, _ => by
    obtain ⟨m, hm, h⟩ := mx_ex (l := y :: l) (by simp)
    by_cases hx : x ≤ m
    · exact ⟨m, List.mem_cons_of_mem _ hm, fun z hz => by rcases List.mem_cons.mp hz with rfl | hz; exact hx; exact h z hz⟩
    · exact ⟨x, List.mem_cons_self, fun z hz => by
        rcases List.mem_cons.mp hz with rfl | hz
        · exact Int.le_refl _
        · have := h z hz; omega⟩

/-! ## sums of squares -/
noncomputable def sq (l : List Int) : Int := (l.map fun x => x * x).sum
theorem sq_cons (x : Int) (l : List Int) : sq (x :: l) = x * x + sq l := by simp [sq]
theorem sq_append (a b : List Int) : sq (a ++ b) = sq a + sq b := by simp [sq]
theorem sq_zip : ∀ (a b : List Int), a.length = b.length → sq (List.zipWith (· + ·) a b) + sq (List.zipWith (· - ·) a b) = 2 * (sq a + sq b)
  | [], [], _ => rfl
  | x :: a, y :: b, h => by
    have ih := sq_zip a b (by simpa using h)
    simp only [List.zipWith_cons_cons, sq_cons]
    grind
  | [], _ :: _, h => by simp at h
  | _ :: _, [], h => by simp at h
theorem sq_sums : ∀ (a : Nat) (t : List Int), t.length = 2 ^ a → sq (sumsR a t) = 2 ^ a * sq t
  | 0, [x], _ => by
    show sq [x] = 1 * sq [x]
    omega
  | a + 1, t, ht => by
    have e2 : 2 ^ (a + 1) = 2 ^ a + 2 ^ a := by rw [Nat.pow_succ]; omega
    have i1 := sq_sums a (t.take (2 ^ a)) (by rw [List.length_take]; omega)
    have i2 := sq_sums a (t.drop (2 ^ a)) (by rw [List.length_drop]; omega)
    have hs : sq t = sq (t.take (2 ^ a)) + sq (t.drop (2 ^ a)) := by rw [← sq_append, List.take_append_drop]
    simp only [sumsR]
    rw [sq_append, sq_zip _ _ (by rw [sumsR_length, sumsR_length]), i1, i2, hs, Int.pow_succ]
    generalize (2 : Int) ^ a = z
    grind
theorem sq_signs : ∀ (t : List Int), (∀ x ∈ t, x = 0 ∨ x = 1) → sq (signsP t) = t.length
  | [], _ => rfl
  | x :: t, h => by
    have ih := sq_signs t fun y hy => h y (List.mem_cons_of_mem _ hy)
    have e : signsP (x :: t) = (1 - 2 * x) :: signsP t := rfl
    rw [e, sq_cons, ih, List.length_cons]
    rcases h x List.mem_cons_self with rfl | rfl <;> simp <;> omega
theorem sq_le4 : ∀ n : Nat, n ≤ 4 → ((n * n : Nat) : Int) ≤ 16 ∧ (((n * n : Nat) : Int) = 16 → n = 4) := by decide +kernel
theorem sq_four : ∀ (l : List Int), (∀ x ∈ l, x.natAbs ≤ 4) → sq l ≤ 16 * l.length ∧ (sq l = 16 * l.length → ∀ x ∈ l, x.natAbs = 4)
  | [], _ => ⟨by decide, fun _ _ h => by cases h⟩
  | x :: l, h => by
    obtain ⟨i1, i2⟩ := sq_four l fun y hy => h y (List.mem_cons_of_mem _ hy)
    have hx := h x List.mem_cons_self
    have hx2 : x * x ≤ 16 ∧ (x * x = 16 → x.natAbs = 4) := by
      rw [← Int.natAbs_mul_self]
      exact sq_le4 _ hx
    rw [sq_cons, List.length_cons]
    refine ⟨by omega, fun he y hy => ?_⟩
    rcases List.mem_cons.mp hy with rfl | hy
    · exact hx2.2 (by omega)
    · exact i2 (by omega) y hy

/-! ## affine tables -/
noncomputable def affT : List Int → List Int
  | [x0, x1, x2, x4, x8] => [x0, x1, x2, (x0 + (x0 + x1) + (x0 + x2)) % 2, x4, (x0 + (x0 + x1) + (x0 + x4)) % 2, (x0 + (x0 + x2) + (x0 + x4)) % 2, (x0 + (x0 + x1) + (x0 + x2) + (x0 + x4)) % 2, x8, (x0 + (x0 + x1) + (x0 + x8)) % 2, (x0 + (x0 + x2) + (x0 + x8)) % 2, (x0 + (x0 + x1) + (x0 + x2) + (x0 + x8)) % 2, (x0 + (x0 + x4) + (x0 + x8)) % 2, (x0 + (x0 + x1) + (x0 + x4) + (x0 + x8)) % 2, (x0 + (x0 + x2) + (x0 + x4) + (x0 + x8)) % 2, (x0 + (x0 + x1) + (x0 + x2) + (x0 + x4) + (x0 + x8)) % 2]
  | _ => []
theorem degA : ∀ t ∈ tabs 5, Deg 4 (sumsR 4 (signsP (affT t))) (withinR 4 (affT t)) (affT t) (dOf 4 (withinR 4 (affT t))) (mOf (sumsR 4 (signsP (affT t)))) (xOf (sumsR 4 (signsP (affT t)))) := by decide +kernel
section
variable (x0 x1 x2 x3 x4 x5 x6 x7 x8 x9 x10 x11 x12 x13 x14 x15 : Int)
theorem aff3 (b : x3 = 0 ∨ x3 = 1) (h3 : ((x3 - x2) - (x1 - x0)) % 2 = 0) : x3 = (x0 + (x0 + x1) + (x0 + x2)) % 2 := by omega
theorem aff5 (b : x5 = 0 ∨ x5 = 1) (h5 : ((x5 - x4) - (x1 - x0)) % 2 = 0) : x5 = (x0 + (x0 + x1) + (x0 + x4)) % 2 := by omega
theorem aff6 (b : x6 = 0 ∨ x6 = 1) (h6 : ((x6 - x4) - (x2 - x0)) % 2 = 0) : x6 = (x0 + (x0 + x2) + (x0 + x4)) % 2 := by omega
theorem aff7 (b : x7 = 0 ∨ x7 = 1) (h3 : ((x3 - x2) - (x1 - x0)) % 2 = 0) (h5 : ((x5 - x4) - (x1 - x0)) % 2 = 0) (h6 : ((x6 - x4) - (x2 - x0)) % 2 = 0) (h7 : (((x7 - x6) - (x5 - x4)) - ((x3 - x2) - (x1 - x0))) % 2 = 0) : x7 = (x0 + (x0 + x1) + (x0 + x2) + (x0 + x4)) % 2 := by omega
theorem aff9 (b : x9 = 0 ∨ x9 = 1) (h9 : ((x9 - x8) - (x1 - x0)) % 2 = 0) : x9 = (x0 + (x0 + x1) + (x0 + x8)) % 2 := by omega
theorem aff10 (b : x10 = 0 ∨ x10 = 1) (h10 : ((x10 - x8) - (x2 - x0)) % 2 = 0) : x10 = (x0 + (x0 + x2) + (x0 + x8)) % 2 := by omega
theorem aff11 (b : x11 = 0 ∨ x11 = 1) (h3 : ((x3 - x2) - (x1 - x0)) % 2 = 0) (h9 : ((x9 - x8) - (x1 - x0)) % 2 = 0) (h10 : ((x10 - x8) - (x2 - x0)) % 2 = 0) (h11 : (((x11 - x10) - (x9 - x8)) - ((x3 - x2) - (x1 - x0))) % 2 = 0) : x11 = (x0 + (x0 + x1) + (x0 + x2) + (x0 + x8)) % 2 := by omega
theorem aff12 (b : x12 = 0 ∨ x12 = 1) (h12 : ((x12 - x8) - (x4 - x0)) % 2 = 0) : x12 = (x0 + (x0 + x4) + (x0 + x8)) % 2 := by omega
theorem aff13 (b : x13 = 0 ∨ x13 = 1) (h5 : ((x5 - x4) - (x1 - x0)) % 2 = 0) (h9 : ((x9 - x8) - (x1 - x0)) % 2 = 0) (h12 : ((x12 - x8) - (x4 - x0)) % 2 = 0) (h13 : (((x13 - x12) - (x9 - x8)) - ((x5 - x4) - (x1 - x0))) % 2 = 0) : x13 = (x0 + (x0 + x1) + (x0 + x4) + (x0 + x8)) % 2 := by omega
theorem aff14 (b : x14 = 0 ∨ x14 = 1) (h6 : ((x6 - x4) - (x2 - x0)) % 2 = 0) (h10 : ((x10 - x8) - (x2 - x0)) % 2 = 0) (h12 : ((x12 - x8) - (x4 - x0)) % 2 = 0) (h14 : (((x14 - x12) - (x10 - x8)) - ((x6 - x4) - (x2 - x0))) % 2 = 0) : x14 = (x0 + (x0 + x2) + (x0 + x4) + (x0 + x8)) % 2 := by omega
theorem aff15 (b : x15 = 0 ∨ x15 = 1) (h3 : ((x3 - x2) - (x1 - x0)) % 2 = 0) (h5 : ((x5 - x4) - (x1 - x0)) % 2 = 0) (h6 : ((x6 - x4) - (x2 - x0)) % 2 = 0) (h7 : (((x7 - x6) - (x5 - x4)) - ((x3 - x2) - (x1 - x0))) % 2 = 0) (h9 : ((x9 - x8) - (x1 - x0)) % 2 = 0) (h10 : ((x10 - x8) - (x2 - x0)) % 2 = 0) (h11 : (((x11 - x10) - (x9 - x8)) - ((x3 - x2) - (x1 - x0))) % 2 = 0) (h12 : ((x12 - x8) - (x4 - x0)) % 2 = 0) (h13 : (((x13 - x12) - (x9 - x8)) - ((x5 - x4) - (x1 - x0))) % 2 = 0) (h14 : (((x14 - x12) - (x10 - x8)) - ((x6 - x4) - (x2 - x0))) % 2 = 0) (h15 : ((((x15 - x14) - (x13 - x12)) - ((x11 - x10) - (x9 - x8))) - (((x7 - x6) - (x5 - x4)) - ((x3 - x2) - (x1 - x0)))) % 2 = 0) : x15 = (x0 + (x0 + x1) + (x0 + x2) + (x0 + x4) + (x0 + x8)) % 2 := by omega
end
theorem rng01 {x : Int} (h : x = 0 ∨ x = 1) : 0 ≤ x ∧ x ≤ 1 := by omega
theorem l16 {a b : Nat} (h : decide (a < b) = true := by rfl) : a < b := of_decide_eq_true h
theorem mem16 {P : Int → Prop} {l : List Int} {u : Nat} (h : ∀ w ∈ l, P w) (hu : u < l.length) : P (l.getD u 0) := by
  rw [List.getD_eq_getElem?_getD, List.getElem?_eq_getElem hu]
  exact h _ (List.getElem_mem _)
noncomputable def pcU (u : Nat) : Nat := (bitsK u 4).sum.toNat
noncomputable def lowT : Nat → Nat → List (List Int)
  | 0, _ => [[]]
  | k + 1, 0 => (lowT k 0).map fun t => 0 :: t
  | k + 1, w + 1 => (lowT k (w + 1)).map (fun t => 0 :: t) ++ (lowT k w).map (fun t => 1 :: t)
theorem mem_lowT : ∀ (k w : Nat) (t : List Int), t.length = k → (∀ x ∈ t, x = 0 ∨ x = 1) → t.sum ≤ w → t ∈ lowT k w
  | 0, _, [], _, _, _ => by unfold lowT; exact List.mem_singleton.mpr rfl
  | k + 1, w, x :: t, hl, h, hs => by
    have ht : ∀ y ∈ t, y = 0 ∨ y = 1 := fun y hy => h y (List.mem_cons_of_mem _ hy)
    have hl' : t.length = k := by simpa using hl
    rw [List.sum_cons] at hs
    rcases h x List.mem_cons_self with rfl | rfl
    · have ih := mem_lowT k w t hl' ht (by omega)
      cases w with
      | zero => exact List.mem_map.mpr ⟨t, ih, rfl⟩
      | succ w => exact List.mem_append_left _ (List.mem_map.mpr ⟨t, ih, rfl⟩)
    · have h0 : 0 ≤ t.sum := by
        clear hs hl hl' h
        induction t with
        | nil => exact Int.le_refl _
        | cons y t ih =>
          rw [List.sum_cons]
          have h1 := ih fun z hz => ht z (List.mem_cons_of_mem _ hz)
          have h2 := ht y List.mem_cons_self
          omega
      cases w with
      | zero => omega
      | succ w => exact List.mem_append_right _ (List.mem_map.mpr ⟨t, mem_lowT k w t hl' ht (by omega), rfl⟩)
theorem low2 : ∀ t ∈ lowT 16 2, t.sum = 2 → ∃ u < 16, pcU u = 3 ∧ (withinR 4 t).getD u 0 % 2 ≠ 0 := by decide +kernel
theorem wt4 (t : List Int) (h01 : ∀ x ∈ t, x = 0 ∨ x = 1) (hl : t.length = 16) (he : t.sum % 2 = 0) (hp : 0 < t.sum) (h3 : ∀ u < 16, pcU u = 3 → (withinR 4 t).getD u 0 % 2 = 0) : 4 ≤ t.sum := by
  refine Classical.byContradiction fun hn => ?_
  have h2 : t.sum = 2 := by omega
  obtain ⟨u, hu, hp, ho⟩ := low2 t (mem_lowT 16 2 t hl h01 (by omega)) h2
  exact ho (h3 u hu hp)
theorem pc_sum : ∀ u < 16, (bitsK u 4).sum = (pcU u : Int) := by decide +kernel
theorem pc_le : ∀ u < 16, pcU u ≤ 4 := by decide +kernel
theorem pc4 : ∀ u < 16, pcU u = 4 → u = 15 := by decide +kernel
theorem pc3 : ∀ u < 16, pcU u = 3 → u = 7 ∨ u = 11 ∨ u = 13 ∨ u = 14 := by decide +kernel
theorem pc2 : ∀ u < 16, pcU u = 2 → u = 3 ∨ u = 5 ∨ u = 6 ∨ u = 9 ∨ u = 10 ∨ u = 12 := by decide +kernel
theorem d_of {A : List Int} (hl : A.length = 16) {d : Nat} (h1 : ∃ u < 16, A.getD u 0 % 2 = 1 ∧ pcU u = d) (h2 : ∀ u < 16, A.getD u 0 % 2 = 1 → pcU u ≤ d) : (d : Int) ∈ 0 :: oddL A 4 ∧ ∀ x ∈ 0 :: oddL A 4, x ≤ (d : Int) := by
  refine ⟨List.mem_cons_of_mem _ (oddL_mem.mpr ?_), fun x hx => ?_⟩
  · obtain ⟨u, hu, ho, hd⟩ := h1
    exact ⟨u, by omega, ho, by rw [pc_sum u hu, hd]⟩
  · rcases List.mem_cons.mp hx with rfl | hx
    · omega
    · obtain ⟨u, hu, ho, rfl⟩ := oddL_mem.mp hx
      have h := h2 u (by omega) ho
      rw [pc_sum u (by omega)]
      omega
set_option maxHeartbeats 4000000 in
theorem deg4 (x0 x1 x2 x3 x4 x5 x6 x7 x8 x9 x10 x11 x12 x13 x14 x15 : Int) (b0 : x0 = 0 ∨ x0 = 1) (b1 : x1 = 0 ∨ x1 = 1) (b2 : x2 = 0 ∨ x2 = 1) (b3 : x3 = 0 ∨ x3 = 1) (b4 : x4 = 0 ∨ x4 = 1) (b5 : x5 = 0 ∨ x5 = 1) (b6 : x6 = 0 ∨ x6 = 1) (b7 : x7 = 0 ∨ x7 = 1) (b8 : x8 = 0 ∨ x8 = 1) (b9 : x9 = 0 ∨ x9 = 1) (b10 : x10 = 0 ∨ x10 = 1) (b11 : x11 = 0 ∨ x11 = 1) (b12 : x12 = 0 ∨ x12 = 1) (b13 : x13 = 0 ∨ x13 = 1) (b14 : x14 = 0 ∨ x14 = 1) (b15 : x15 = 0 ∨ x15 = 1) : ∃ d m mx, Deg 4 (wv x0 x1 x2 x3 x4 x5 x6 x7 x8 x9 x10 x11 x12 x13 x14 x15) (av x0 x1 x2 x3 x4 x5 x6 x7 x8 x9 x10 x11 x12 x13 x14 x15) [x0, x1, x2, x3, x4, x5, x6, x7, x8, x9, x10, x11, x12, x13, x14, x15] d m mx := by
  have h01 : ∀ x ∈ [x0, x1, x2, x3, x4, x5, x6, x7, x8, x9, x10, x11, x12, x13, x14, x15], x = 0 ∨ x = 1 := by
    intro x hx
    simp only [List.mem_cons, List.not_mem_nil, or_false] at hx
    rcases hx with rfl | rfl | rfl | rfl | rfl | rfl | rfl | rfl | rfl | rfl | rfl | rfl | rfl | rfl | rfl | rfl
    all_goals assumption
  have hsq : sq (wv x0 x1 x2 x3 x4 x5 x6 x7 x8 x9 x10 x11 x12 x13 x14 x15) = 256 := by
    rw [← wv_eq, sq_sums 4 _ rfl, sq_signs _ h01]
    rfl
  have h5 : oddW (wv x0 x1 x2 x3 x4 x5 x6 x7 x8 x9 x10 x11 x12 x13 x14 x15) 4 ≠ [] := fun h => no32 x0 x1 x2 x3 x4 x5 x6 x7 x8 x9 x10 x11 x12 x13 x14 x15 (oddW_nil.mp h)
  obtain ⟨m, hm4, hm, hml⟩ := m_ex 4 h5
  obtain ⟨mx, hx, hxm⟩ := mx_ex (l := absL (wv x0 x1 x2 x3 x4 x5 x6 x7 x8 x9 x10 x11 x12 x13 x14 x15)) (by unfold absL wv; simp)
  have hlA : (av x0 x1 x2 x3 x4 x5 x6 x7 x8 x9 x10 x11 x12 x13 x14 x15).length = 16 := rfl
  have c22 : mx = 4 → ∀ w ∈ wv x0 x1 x2 x3 x4 x5 x6 x7 x8 x9 x10 x11 x12 x13 x14 x15, w.natAbs = 4 := by
    intro e
    subst e
    refine (sq_four (wv x0 x1 x2 x3 x4 x5 x6 x7 x8 x9 x10 x11 x12 x13 x14 x15) fun w hw => ?_).2 hsq
    have := hxm _ (List.mem_map.mpr ⟨w, hw, rfl⟩)
    omega
  have run : ∀ d : Nat, (∃ u < 16, (av x0 x1 x2 x3 x4 x5 x6 x7 x8 x9 x10 x11 x12 x13 x14 x15).getD u 0 % 2 = 1 ∧ pcU u = d) → (∀ u < 16, (av x0 x1 x2 x3 x4 x5 x6 x7 x8 x9 x10 x11 x12 x13 x14 x15).getD u 0 % 2 = 1 → pcU u ≤ d) → d ≤ 4 → (0 < d → (4 + d - 1) / d ≤ m) → (0 < [x0, x1, x2, x3, x4, x5, x6, x7, x8, x9, x10, x11, x12, x13, x14, x15].sum → (2 ^ (4 - d) : Nat) ≤ [x0, x1, x2, x3, x4, x5, x6, x7, x8, x9, x10, x11, x12, x13, x14, x15].sum) →
      ((4 : Nat) = 4 → 2 < d → mx ≠ 4) → d + m ≤ 4 + 1 → ∃ d m mx, Deg 4 (wv x0 x1 x2 x3 x4 x5 x6 x7 x8 x9 x10 x11 x12 x13 x14 x15) (av x0 x1 x2 x3 x4 x5 x6 x7 x8 x9 x10 x11 x12 x13 x14 x15) [x0, x1, x2, x3, x4, x5, x6, x7, x8, x9, x10, x11, x12, x13, x14, x15] d m mx :=
    fun d a b c e f g h => ⟨d, m, mx, (d_of hlA a b).1, (d_of hlA a b).2, c, hm, hml, by omega, e, f, hx, hxm, g, h⟩
  by_cases o4 : ∃ u < 16, (av x0 x1 x2 x3 x4 x5 x6 x7 x8 x9 x10 x11 x12 x13 x14 x15).getD u 0 % 2 = 1 ∧ pcU u = 4
  · have m1 : 1 ≤ m := m_low (k := 1) hm (all2 x0 x1 x2 x3 x4 x5 x6 x7 x8 x9 x10 x11 x12 x13 x14 x15)
    obtain ⟨u, hu, ho, hp⟩ := o4
    obtain rfl := pc4 u hu hp
    have m2 : m < 2 := m_high (k := 2) hml fun h => no4 x0 x1 x2 x3 x4 x5 x6 x7 x8 x9 x10 x11 x12 x13 x14 x15 ho (mem16 (u := 0) h l16)
    obtain rfl : m = 1 := by omega
    refine run 4 ⟨15, by decide, ho, by decide⟩ (fun u hu _ => pc_le u hu) (by decide) (by decide) (fun h => ?_) (fun _ _ e => ?_) (by decide)
    · show (1 : Int) ≤ _; omega
    · have h := mem16 (P := fun w => w.natAbs = 4) (u := 0) (c22 e) l16
      exact no4 x0 x1 x2 x3 x4 x5 x6 x7 x8 x9 x10 x11 x12 x13 x14 x15 ho (Int.natAbs_dvd_natAbs.mp (show (4 : Int).natAbs ∣ ((wv x0 x1 x2 x3 x4 x5 x6 x7 x8 x9 x10 x11 x12 x13 x14 x15).getD 0 0).natAbs by rw [h]; exact Nat.dvd_refl _))
  have e15 : (av x0 x1 x2 x3 x4 x5 x6 x7 x8 x9 x10 x11 x12 x13 x14 x15).getD 15 0 % 2 = 0 := by
    have : ¬ (av x0 x1 x2 x3 x4 x5 x6 x7 x8 x9 x10 x11 x12 x13 x14 x15).getD 15 0 % 2 = 1 := fun h => o4 ⟨15, by decide, h, by decide⟩
    omega
  have m2 : 2 ≤ m := m_low (k := 2) hm (all4 x0 x1 x2 x3 x4 x5 x6 x7 x8 x9 x10 x11 x12 x13 x14 x15 e15)
  have even : [x0, x1, x2, x3, x4, x5, x6, x7, x8, x9, x10, x11, x12, x13, x14, x15].sum % 2 = 0 := by
    rw [sum16]
    exact ev16 x0 x1 x2 x3 x4 x5 x6 x7 x8 x9 x10 x11 x12 x13 x14 x15 e15
  by_cases o3 : ∃ u < 16, (av x0 x1 x2 x3 x4 x5 x6 x7 x8 x9 x10 x11 x12 x13 x14 x15).getD u 0 % 2 = 1 ∧ pcU u = 3
  · have le3 : ∀ u < 16, (av x0 x1 x2 x3 x4 x5 x6 x7 x8 x9 x10 x11 x12 x13 x14 x15).getD u 0 % 2 = 1 → pcU u ≤ 3 := fun u hu ho => by
      have := pc_le u hu
      have : pcU u ≠ 4 := fun e => o4 ⟨u, hu, ho, e⟩
      omega
    obtain ⟨u, hu, ho, hp⟩ := o3
    have m3 : m < 3 := m_high (k := 3) hml fun h => by
      rcases pc3 u hu hp with rfl | rfl | rfl | rfl
      · exact no8a7 x0 x1 x2 x3 x4 x5 x6 x7 x8 x9 x10 x11 x12 x13 x14 x15 ho ⟨mem16 (u := 0) h l16, mem16 (u := 8) h l16⟩
      · exact no8a11 x0 x1 x2 x3 x4 x5 x6 x7 x8 x9 x10 x11 x12 x13 x14 x15 ho ⟨mem16 (u := 0) h l16, mem16 (u := 4) h l16⟩
      · exact no8a13 x0 x1 x2 x3 x4 x5 x6 x7 x8 x9 x10 x11 x12 x13 x14 x15 ho ⟨mem16 (u := 0) h l16, mem16 (u := 2) h l16⟩
      · exact no8a14 x0 x1 x2 x3 x4 x5 x6 x7 x8 x9 x10 x11 x12 x13 x14 x15 ho ⟨mem16 (u := 0) h l16, mem16 (u := 1) h l16⟩
    obtain rfl : m = 2 := by omega
    refine run 3 ⟨u, hu, ho, hp⟩ le3 (by decide) (by decide) (fun h => ?_) (fun _ _ e => ?_) (by decide)
    · show (2 : Int) ≤ _; omega
    · have h := c22 e
      rcases pc3 u hu hp with rfl | rfl | rfl | rfl
      · exact no8b7 x0 x1 x2 x3 x4 x5 x6 x7 x8 x9 x10 x11 x12 x13 x14 x15 ho (mem16 (P := fun w => w.natAbs = 4) (u := 0) h l16) (mem16 (P := fun w => w.natAbs = 4) (u := 8) h l16)
      · exact no8b11 x0 x1 x2 x3 x4 x5 x6 x7 x8 x9 x10 x11 x12 x13 x14 x15 ho (mem16 (P := fun w => w.natAbs = 4) (u := 0) h l16) (mem16 (P := fun w => w.natAbs = 4) (u := 4) h l16)
      · exact no8b13 x0 x1 x2 x3 x4 x5 x6 x7 x8 x9 x10 x11 x12 x13 x14 x15 ho (mem16 (P := fun w => w.natAbs = 4) (u := 0) h l16) (mem16 (P := fun w => w.natAbs = 4) (u := 2) h l16)
      · exact no8b14 x0 x1 x2 x3 x4 x5 x6 x7 x8 x9 x10 x11 x12 x13 x14 x15 ho (mem16 (P := fun w => w.natAbs = 4) (u := 0) h l16) (mem16 (P := fun w => w.natAbs = 4) (u := 1) h l16)
  have ev3 : ∀ u < 16, pcU u = 3 → (av x0 x1 x2 x3 x4 x5 x6 x7 x8 x9 x10 x11 x12 x13 x14 x15).getD u 0 % 2 = 0 := fun u hu hp => by
    have : ¬ (av x0 x1 x2 x3 x4 x5 x6 x7 x8 x9 x10 x11 x12 x13 x14 x15).getD u 0 % 2 = 1 := fun h => o3 ⟨u, hu, h, hp⟩
    omega
  by_cases o2 : ∃ u < 16, (av x0 x1 x2 x3 x4 x5 x6 x7 x8 x9 x10 x11 x12 x13 x14 x15).getD u 0 % 2 = 1 ∧ pcU u = 2
  · have le2 : ∀ u < 16, (av x0 x1 x2 x3 x4 x5 x6 x7 x8 x9 x10 x11 x12 x13 x14 x15).getD u 0 % 2 = 1 → pcU u ≤ 2 := fun u hu ho => by
      have := pc_le u hu
      have : pcU u ≠ 4 := fun e => o4 ⟨u, hu, ho, e⟩
      have : pcU u ≠ 3 := fun e => o3 ⟨u, hu, ho, e⟩
      omega
    obtain ⟨u, hu, ho, hp⟩ := o2
    have m3 : m < 4 := m_high (k := 4) hml fun h => by
      rcases pc2 u hu hp with rfl | rfl | rfl | rfl | rfl | rfl
      · exact no16c3 x0 x1 x2 x3 x4 x5 x6 x7 x8 x9 x10 x11 x12 x13 x14 x15 ho ⟨mem16 (u := 0) h l16, mem16 (u := 4) h l16, mem16 (u := 8) h l16, mem16 (u := 12) h l16⟩
      · exact no16c5 x0 x1 x2 x3 x4 x5 x6 x7 x8 x9 x10 x11 x12 x13 x14 x15 ho ⟨mem16 (u := 0) h l16, mem16 (u := 2) h l16, mem16 (u := 8) h l16, mem16 (u := 10) h l16⟩
      · exact no16c6 x0 x1 x2 x3 x4 x5 x6 x7 x8 x9 x10 x11 x12 x13 x14 x15 ho ⟨mem16 (u := 0) h l16, mem16 (u := 1) h l16, mem16 (u := 8) h l16, mem16 (u := 9) h l16⟩
      · exact no16c9 x0 x1 x2 x3 x4 x5 x6 x7 x8 x9 x10 x11 x12 x13 x14 x15 ho ⟨mem16 (u := 0) h l16, mem16 (u := 2) h l16, mem16 (u := 4) h l16, mem16 (u := 6) h l16⟩
      · exact no16c10 x0 x1 x2 x3 x4 x5 x6 x7 x8 x9 x10 x11 x12 x13 x14 x15 ho ⟨mem16 (u := 0) h l16, mem16 (u := 1) h l16, mem16 (u := 4) h l16, mem16 (u := 5) h l16⟩
      · exact no16c12 x0 x1 x2 x3 x4 x5 x6 x7 x8 x9 x10 x11 x12 x13 x14 x15 ho ⟨mem16 (u := 0) h l16, mem16 (u := 1) h l16, mem16 (u := 2) h l16, mem16 (u := 3) h l16⟩
    refine run 2 ⟨u, hu, ho, hp⟩ le2 (by decide) (fun _ => m2) (fun h => ?_) (fun _ h => absurd h (by decide)) (by omega)
    exact wt4 [x0, x1, x2, x3, x4, x5, x6, x7, x8, x9, x10, x11, x12, x13, x14, x15] h01 rfl even h fun u hu hp => by
      rw [av_eq]
      exact ev3 u hu hp
  have ev2 : ∀ u < 16, pcU u = 2 → (av x0 x1 x2 x3 x4 x5 x6 x7 x8 x9 x10 x11 x12 x13 x14 x15).getD u 0 % 2 = 0 := fun u hu hp => by
    have : ¬ (av x0 x1 x2 x3 x4 x5 x6 x7 x8 x9 x10 x11 x12 x13 x14 x15).getD u 0 % 2 = 1 := fun h => o2 ⟨u, hu, h, hp⟩
    omega
  have a3 := aff3 x0 x1 x2 x3 b3 (ev2 3 (by decide) (by decide))
  have a5 := aff5 x0 x1 x4 x5 b5 (ev2 5 (by decide) (by decide))
  have a6 := aff6 x0 x2 x4 x6 b6 (ev2 6 (by decide) (by decide))
  have a7 := aff7 x0 x1 x2 x3 x4 x5 x6 x7 b7 (ev2 3 (by decide) (by decide)) (ev2 5 (by decide) (by decide)) (ev2 6 (by decide) (by decide)) (ev3 7 (by decide) (by decide))
  have a9 := aff9 x0 x1 x8 x9 b9 (ev2 9 (by decide) (by decide))
  have a10 := aff10 x0 x2 x8 x10 b10 (ev2 10 (by decide) (by decide))
  have a11 := aff11 x0 x1 x2 x3 x8 x9 x10 x11 b11 (ev2 3 (by decide) (by decide)) (ev2 9 (by decide) (by decide)) (ev2 10 (by decide) (by decide)) (ev3 11 (by decide) (by decide))
  have a12 := aff12 x0 x4 x8 x12 b12 (ev2 12 (by decide) (by decide))
  have a13 := aff13 x0 x1 x4 x5 x8 x9 x12 x13 b13 (ev2 5 (by decide) (by decide)) (ev2 9 (by decide) (by decide)) (ev2 12 (by decide) (by decide)) (ev3 13 (by decide) (by decide))
  have a14 := aff14 x0 x2 x4 x6 x8 x10 x12 x14 b14 (ev2 6 (by decide) (by decide)) (ev2 10 (by decide) (by decide)) (ev2 12 (by decide) (by decide)) (ev3 14 (by decide) (by decide))
  have a15 := aff15 x0 x1 x2 x3 x4 x5 x6 x7 x8 x9 x10 x11 x12 x13 x14 x15 b15 (ev2 3 (by decide) (by decide)) (ev2 5 (by decide) (by decide)) (ev2 6 (by decide) (by decide)) (ev3 7 (by decide) (by decide)) (ev2 9 (by decide) (by decide)) (ev2 10 (by decide) (by decide)) (ev3 11 (by decide) (by decide)) (ev2 12 (by decide) (by decide)) (ev3 13 (by decide) (by decide)) (ev3 14 (by decide) (by decide)) e15
  have hT : [x0, x1, x2, x3, x4, x5, x6, x7, x8, x9, x10, x11, x12, x13, x14, x15] = affT [x0, x1, x2, x4, x8] := by
    show _ = [x0, x1, x2, (x0 + (x0 + x1) + (x0 + x2)) % 2, x4, (x0 + (x0 + x1) + (x0 + x4)) % 2, (x0 + (x0 + x2) + (x0 + x4)) % 2, (x0 + (x0 + x1) + (x0 + x2) + (x0 + x4)) % 2, x8, (x0 + (x0 + x1) + (x0 + x8)) % 2, (x0 + (x0 + x2) + (x0 + x8)) % 2, (x0 + (x0 + x1) + (x0 + x2) + (x0 + x8)) % 2, (x0 + (x0 + x4) + (x0 + x8)) % 2, (x0 + (x0 + x1) + (x0 + x4) + (x0 + x8)) % 2, (x0 + (x0 + x2) + (x0 + x4) + (x0 + x8)) % 2, (x0 + (x0 + x1) + (x0 + x2) + (x0 + x4) + (x0 + x8)) % 2]
    rw [← a3, ← a5, ← a6, ← a7, ← a9, ← a10, ← a11, ← a12, ← a13, ← a14, ← a15]
  have hd := degA [x0, x1, x2, x4, x8] (mem_tabs 5 _ rfl fun x hx => h01 x (by
    simp only [List.mem_cons, List.not_mem_nil, or_false] at hx ⊢
    rcases hx with rfl | rfl | rfl | rfl | rfl <;> simp))
  rw [← hT, wv_eq, av_eq] at hd
  exact ⟨_, _, _, hd⟩
end Mine
end

section
open PySem PySem.W PyProof.Rows PySem.Calls
set_option autoImplicit false
set_option maxRecDepth 100000
namespace Mine

noncomputable def sv (lot n : Nat) : List Rat := (bitsK lot n).map fun b => ((1 - 2 * b : Int) : Rat)
theorem q_one (z : Int) : mkRat z 1 = (z : Rat) := by rw [Rat.mkRat_eq_div]; simp; grind
theorem at2v0 (x0 x1 x2 x3 : Int) : Ls 2 0 ([x0, x1, x2, x3].map fun z => mkRat z 1) (mu (sv 0 2)) = (((sumsR 2 [x0, x1, x2, x3]).getD 0 0 : Int) : Rat) := by
  show _ = ((((x0 + x1) + (x2 + x3)) : Int) : Rat)
  simp only [List.map_cons, List.map_nil, Ls, q_one, Nat.zero_add, Nat.reduceAdd, Rat.intCast_add, Rat.intCast_sub]
  rw [show mu (sv 0 2) (bitsK 0 2) = 1 from by decide +kernel, show mu (sv 0 2) (bitsK 1 2) = 1 from by decide +kernel, show mu (sv 0 2) (bitsK 2 2) = 1 from by decide +kernel, show mu (sv 0 2) (bitsK 3 2) = 1 from by decide +kernel]
  grind
theorem at2v1 (x0 x1 x2 x3 : Int) : Ls 2 0 ([x0, x1, x2, x3].map fun z => mkRat z 1) (mu (sv 1 2)) = (((sumsR 2 [x0, x1, x2, x3]).getD 1 0 : Int) : Rat) := by
  show _ = ((((x0 - x1) + (x2 - x3)) : Int) : Rat)
  simp only [List.map_cons, List.map_nil, Ls, q_one, Nat.zero_add, Nat.reduceAdd, Rat.intCast_add, Rat.intCast_sub]
  rw [show mu (sv 1 2) (bitsK 0 2) = 1 from by decide +kernel, show mu (sv 1 2) (bitsK 1 2) = -1 from by decide +kernel, show mu (sv 1 2) (bitsK 2 2) = 1 from by decide +kernel, show mu (sv 1 2) (bitsK 3 2) = -1 from by decide +kernel]
  grind
theorem at2v2 (x0 x1 x2 x3 : Int) : Ls 2 0 ([x0, x1, x2, x3].map fun z => mkRat z 1) (mu (sv 2 2)) = (((sumsR 2 [x0, x1, x2, x3]).getD 2 0 : Int) : Rat) := by
  show _ = ((((x0 + x1) - (x2 + x3)) : Int) : Rat)
  simp only [List.map_cons, List.map_nil, Ls, q_one, Nat.zero_add, Nat.reduceAdd, Rat.intCast_add, Rat.intCast_sub]
  rw [show mu (sv 2 2) (bitsK 0 2) = 1 from by decide +kernel, show mu (sv 2 2) (bitsK 1 2) = 1 from by decide +kernel, show mu (sv 2 2) (bitsK 2 2) = -1 from by decide +kernel, show mu (sv 2 2) (bitsK 3 2) = -1 from by decide +kernel]
  grind
theorem at2v3 (x0 x1 x2 x3 : Int) : Ls 2 0 ([x0, x1, x2, x3].map fun z => mkRat z 1) (mu (sv 3 2)) = (((sumsR 2 [x0, x1, x2, x3]).getD 3 0 : Int) : Rat) := by
  show _ = ((((x0 - x1) - (x2 - x3)) : Int) : Rat)
  simp only [List.map_cons, List.map_nil, Ls, q_one, Nat.zero_add, Nat.reduceAdd, Rat.intCast_add, Rat.intCast_sub]
  rw [show mu (sv 3 2) (bitsK 0 2) = 1 from by decide +kernel, show mu (sv 3 2) (bitsK 1 2) = -1 from by decide +kernel, show mu (sv 3 2) (bitsK 2 2) = -1 from by decide +kernel, show mu (sv 3 2) (bitsK 3 2) = 1 from by decide +kernel]
  grind
theorem at3v0 (x0 x1 x2 x3 x4 x5 x6 x7 : Int) : Ls 3 0 ([x0, x1, x2, x3, x4, x5, x6, x7].map fun z => mkRat z 1) (mu (sv 0 3)) = (((sumsR 3 [x0, x1, x2, x3, x4, x5, x6, x7]).getD 0 0 : Int) : Rat) := by
  show _ = (((((x0 + x1) + (x2 + x3)) + ((x4 + x5) + (x6 + x7))) : Int) : Rat)
  simp only [List.map_cons, List.map_nil, Ls, q_one, Nat.zero_add, Nat.reduceAdd, Rat.intCast_add, Rat.intCast_sub]
  rw [show mu (sv 0 3) (bitsK 0 3) = 1 from by decide +kernel, show mu (sv 0 3) (bitsK 1 3) = 1 from by decide +kernel, show mu (sv 0 3) (bitsK 2 3) = 1 from by decide +kernel, show mu (sv 0 3) (bitsK 3 3) = 1 from by decide +kernel, show mu (sv 0 3) (bitsK 4 3) = 1 from by decide +kernel, show mu (sv 0 3) (bitsK 5 3) = 1 from by decide +kernel, show mu (sv 0 3) (bitsK 6 3) = 1 from by decide +kernel, show mu (sv 0 3) (bitsK 7 3) = 1 from by decide +kernel]
  grind
theorem at3v1 (x0 x1 x2 x3 x4 x5 x6 x7 : Int) : Ls 3 0 ([x0, x1, x2, x3, x4, x5, x6, x7].map fun z => mkRat z 1) (mu (sv 1 3)) = (((sumsR 3 [x0, x1, x2, x3, x4, x5, x6, x7]).getD 1 0 : Int) : Rat) := by
  show _ = (((((x0 - x1) + (x2 - x3)) + ((x4 - x5) + (x6 - x7))) : Int) : Rat)
  simp only [List.map_cons, List.map_nil, Ls, q_one, Nat.zero_add, Nat.reduceAdd, Rat.intCast_add, Rat.intCast_sub]
  rw [show mu (sv 1 3) (bitsK 0 3) = 1 from by decide +kernel, show mu (sv 1 3) (bitsK 1 3) = -1 from by decide +kernel, show mu (sv 1 3) (bitsK 2 3) = 1 from by decide +kernel, show mu (sv 1 3) (bitsK 3 3) = -1 from by decide +kernel, show mu (sv 1 3) (bitsK 4 3) = 1 from by decide +kernel, show mu (sv 1 3) (bitsK 5 3) = -1 from by decide +kernel, show mu (sv 1 3) (bitsK 6 3) = 1 from by decide +kernel, show mu (sv 1 3) (bitsK 7 3) = -1 from by decide +kernel]
  grind
theorem at3v2 (x0 x1 x2 x3 x4 x5 x6 x7 : Int) : Ls 3 0 ([x0, x1, x2, x3, x4, x5, x6, x7].map fun z => mkRat z 1) (mu (sv 2 3)) = (((sumsR 3 [x0, x1, x2, x3, x4, x5, x6, x7]).getD 2 0 : Int) : Rat) := by
  show _ = (((((x0 + x1) - (x2 + x3)) + ((x4 + x5) - (x6 + x7))) : Int) : Rat)
  simp only [List.map_cons, List.map_nil, Ls, q_one, Nat.zero_add, Nat.reduceAdd, Rat.intCast_add, Rat.intCast_sub]
  rw [show mu (sv 2 3) (bitsK 0 3) = 1 from by decide +kernel, show mu (sv 2 3) (bitsK 1 3) = 1 from by decide +kernel, show mu (sv 2 3) (bitsK 2 3) = -1 from by decide +kernel, show mu (sv 2 3) (bitsK 3 3) = -1 from by decide +kernel, show mu (sv 2 3) (bitsK 4 3) = 1 from by decide +kernel, show mu (sv 2 3) (bitsK 5 3) = 1 from by decide +kernel, show mu (sv 2 3) (bitsK 6 3) = -1 from by decide +kernel, show mu (sv 2 3) (bitsK 7 3) = -1 from by decide +kernel]
  grind
theorem at3v3 (x0 x1 x2 x3 x4 x5 x6 x7 : Int) : Ls 3 0 ([x0, x1, x2, x3, x4, x5, x6, x7].map fun z => mkRat z 1) (mu (sv 3 3)) = (((sumsR 3 [x0, x1, x2, x3, x4, x5, x6, x7]).getD 3 0 : Int) : Rat) := by
  show _ = (((((x0 - x1) - (x2 - x3)) + ((x4 - x5) - (x6 - x7))) : Int) : Rat)
  simp only [List.map_cons, List.map_nil, Ls, q_one, Nat.zero_add, Nat.reduceAdd, Rat.intCast_add, Rat.intCast_sub]
  rw [show mu (sv 3 3) (bitsK 0 3) = 1 from by decide +kernel, show mu (sv 3 3) (bitsK 1 3) = -1 from by decide +kernel, show mu (sv 3 3) (bitsK 2 3) = -1 from by decide +kernel, show mu (sv 3 3) (bitsK 3 3) = 1 from by decide +kernel, show mu (sv 3 3) (bitsK 4 3) = 1 from by decide +kernel, show mu (sv 3 3) (bitsK 5 3) = -1 from by decide +kernel, show mu (sv 3 3) (bitsK 6 3) = -1 from by decide +kernel, show mu (sv 3 3) (bitsK 7 3) = 1 from by decide +kernel]
  grind
theorem at3v4 (x0 x1 x2 x3 x4 x5 x6 x7 : Int) : Ls 3 0 ([x0, x1, x2, x3, x4, x5, x6, x7].map fun z => mkRat z 1) (mu (sv 4 3)) = (((sumsR 3 [x0, x1, x2, x3, x4, x5, x6, x7]).getD 4 0 : Int) : Rat) := by
  show _ = (((((x0 + x1) + (x2 + x3)) - ((x4 + x5) + (x6 + x7))) : Int) : Rat)
  simp only [List.map_cons, List.map_nil, Ls, q_one, Nat.zero_add, Nat.reduceAdd, Rat.intCast_add, Rat.intCast_sub]
  rw [show mu (sv 4 3) (bitsK 0 3) = 1 from by decide +kernel, show mu (sv 4 3) (bitsK 1 3) = 1 from by decide +kernel, show mu (sv 4 3) (bitsK 2 3) = 1 from by decide +kernel, show mu (sv 4 3) (bitsK 3 3) = 1 from by decide +kernel, show mu (sv 4 3) (bitsK 4 3) = -1 from by decide +kernel, show mu (sv 4 3) (bitsK 5 3) = -1 from by decide +kernel, show mu (sv 4 3) (bitsK 6 3) = -1 from by decide +kernel, show mu (sv 4 3) (bitsK 7 3) = -1 from by decide +kernel]
  grind
theorem at3v5 (x0 x1 x2 x3 x4 x5 x6 x7 : Int) : Ls 3 0 ([x0, x1, x2, x3, x4, x5, x6, x7].map fun z => mkRat z 1) (mu (sv 5 3)) = (((sumsR 3 [x0, x1, x2, x3, x4, x5, x6, x7]).getD 5 0 : Int) : Rat) := by
  show _ = (((((x0 - x1) + (x2 - x3)) - ((x4 - x5) + (x6 - x7))) : Int) : Rat)
  simp only [List.map_cons, List.map_nil, Ls, q_one, Nat.zero_add, Nat.reduceAdd, Rat.intCast_add, Rat.intCast_sub]
  rw [show mu (sv 5 3) (bitsK 0 3) = 1 from by decide +kernel, show mu (sv 5 3) (bitsK 1 3) = -1 from by decide +kernel, show mu (sv 5 3) (bitsK 2 3) = 1 from by decide +kernel, show mu (sv 5 3) (bitsK 3 3) = -1 from by decide +kernel, show mu (sv 5 3) (bitsK 4 3) = -1 from by decide +kernel, show mu (sv 5 3) (bitsK 5 3) = 1 from by decide +kernel, show mu (sv 5 3) (bitsK 6 3) = -1 from by decide +kernel, show mu (sv 5 3) (bitsK 7 3) = 1 from by decide +kernel]
  grind
theorem at3v6 (x0 x1 x2 x3 x4 x5 x6 x7 : Int) : Ls 3 0 ([x0, x1, x2, x3, x4, x5, x6, x7].map fun z => mkRat z 1) (mu (sv 6 3)) = (((sumsR 3 [x0, x1, x2, x3, x4, x5, x6, x7]).getD 6 0 : Int) : Rat) := by
  show _ = (((((x0 + x1) - (x2 + x3)) - ((x4 + x5) - (x6 + x7))) : Int) : Rat)
  simp only [List.map_cons, List.map_nil, Ls, q_one, Nat.zero_add, Nat.reduceAdd, Rat.intCast_add, Rat.intCast_sub]
  rw [show mu (sv 6 3) (bitsK 0 3) = 1 from by decide +kernel, show mu (sv 6 3) (bitsK 1 3) = 1 from by decide +kernel, show mu (sv 6 3) (bitsK 2 3) = -1 from by decide +kernel, show mu (sv 6 3) (bitsK 3 3) = -1 from by decide +kernel, show mu (sv 6 3) (bitsK 4 3) = -1 from by decide +kernel, show mu (sv 6 3) (bitsK 5 3) = -1 from by decide +kernel, show mu (sv 6 3) (bitsK 6 3) = 1 from by decide +kernel, show mu (sv 6 3) (bitsK 7 3) = 1 from by decide +kernel]
  grind
theorem at3v7 (x0 x1 x2 x3 x4 x5 x6 x7 : Int) : Ls 3 0 ([x0, x1, x2, x3, x4, x5, x6, x7].map fun z => mkRat z 1) (mu (sv 7 3)) = (((sumsR 3 [x0, x1, x2, x3, x4, x5, x6, x7]).getD 7 0 : Int) : Rat) := by
  show _ = (((((x0 - x1) - (x2 - x3)) - ((x4 - x5) - (x6 - x7))) : Int) : Rat)
  simp only [List.map_cons, List.map_nil, Ls, q_one, Nat.zero_add, Nat.reduceAdd, Rat.intCast_add, Rat.intCast_sub]
  rw [show mu (sv 7 3) (bitsK 0 3) = 1 from by decide +kernel, show mu (sv 7 3) (bitsK 1 3) = -1 from by decide +kernel, show mu (sv 7 3) (bitsK 2 3) = -1 from by decide +kernel, show mu (sv 7 3) (bitsK 3 3) = 1 from by decide +kernel, show mu (sv 7 3) (bitsK 4 3) = -1 from by decide +kernel, show mu (sv 7 3) (bitsK 5 3) = 1 from by decide +kernel, show mu (sv 7 3) (bitsK 6 3) = 1 from by decide +kernel, show mu (sv 7 3) (bitsK 7 3) = -1 from by decide +kernel]
  grind
theorem ats2 (l : List Int) (hl : l.length = 2 ^ 2) (lot : Nat) (h : lot < 2 ^ 2) : Ls 2 0 (l.map fun z => mkRat z 1) (mu (sv lot 2)) = (((sumsR 2 l).getD lot 0 : Int) : Rat) := by
  match l, hl with
  | [x0, x1, x2, x3], _ =>
    match lot, h with
    | 0, _ => exact at2v0 ..
    | 1, _ => exact at2v1 ..
    | 2, _ => exact at2v2 ..
    | 3, _ => exact at2v3 ..
theorem ats3 (l : List Int) (hl : l.length = 2 ^ 3) (lot : Nat) (h : lot < 2 ^ 3) : Ls 3 0 (l.map fun z => mkRat z 1) (mu (sv lot 3)) = (((sumsR 3 l).getD lot 0 : Int) : Rat) := by
  match l, hl with
  | [x0, x1, x2, x3, x4, x5, x6, x7], _ =>
    match lot, h with
    | 0, _ => exact at3v0 ..
    | 1, _ => exact at3v1 ..
    | 2, _ => exact at3v2 ..
    | 3, _ => exact at3v3 ..
    | 4, _ => exact at3v4 ..
    | 5, _ => exact at3v5 ..
    | 6, _ => exact at3v6 ..
    | 7, _ => exact at3v7 ..
end Mine
end

section
open PySem PySem.W PyProof.Rows PySem.Calls
set_option autoImplicit false
set_option maxRecDepth 100000
namespace Mine

theorem terms_mem {l : List Int} {below n : Nat} {e : List Int × Rat} (h : e ∈ termsP l below n) : ∃ u, u < l.length ∧ l.getD u 0 ∈ l ∧ e = (bitsK u n, mkRat (l.getD u 0) below) := by
  obtain ⟨x, hx, rfl⟩ := List.mem_map.mp h
  obtain ⟨h1, _⟩ := List.mem_filter.mp hx
  obtain ⟨z, u⟩ := x
  have h3 := List.mem_zipIdx h1
  simp only [Nat.zero_add, Nat.sub_zero] at h3
  have e : l.getD u 0 = z := by rw [List.getD_eq_getElem?_getD, List.getElem?_eq_getElem h3.2.1, Option.getD_some]; exact h3.2.2.symm
  refine ⟨u, h3.2.1, ?_, by rw [e]⟩
  rw [e, h3.2.2]
  exact List.getElem_mem _
theorem mem_of_I {p q : Poly} (hp : ND p) (hq : ND q) (zp : NZ p) (h : ∀ g, I p g = I q g) : ∀ e ∈ p, e ∈ q := by
  intro e he
  have h1 := h (dl e.1)
  rw [I_dl hp, I_dl hq, mem_lookup hp he] at h1
  cases hl : q.lookup e.1 with
  | none => rw [hl] at h1; exact absurd h1 (zp e he)
  | some r =>
    rw [hl] at h1
    have : e.2 = r := h1
    have hm := lookup_mem hl
    rw [← this] at hm
    exact hm

section
variable {n : Nat} (hn : 2 ≤ n ∧ n ≤ 4) {table : List Int} (ht : table.length = 2 ^ n) (h01 : ∀ x ∈ table, x = 0 ∨ x = 1)
include hn ht h01
theorem plain_mem (w : World) (e : List Int × Rat) : e ∈ plainP n table ↔ e ∈ termsP (withinP n table) 1 n := by
  have h := plainR hn ht h01 w
  have hl : (withinP n table).length = 2 ^ n := by rw [withinP_length, ht]
  have hI : ∀ g, I (plainP n table) g = I (termsP (withinP n table) 1 n) g := fun g => by
    rw [h.fn, I_terms]
    congr 1
    exact List.map_congr_left fun z _ => (q_one z).symm
  exact ⟨mem_of_I h.nd (ND_terms _ _ n hn hl) h.nz hI e, mem_of_I (ND_terms _ _ n hn hl) h.nd (NZ_terms _ _ n (by decide)) (fun g => (hI g).symm) e⟩
theorem odd_mem (w : World) (x : Int) : x ∈ oddT (plainP n table) ↔ x ∈ oddL (withinP n table) n := by
  have hpos : ∀ z : Int, (mkRat z 1).num = z := fun z => by rw [q_one]; rfl
  constructor
  · intro hx
    obtain ⟨e, he, rfl⟩ := List.mem_map.mp hx
    obtain ⟨h1, h2⟩ := List.mem_filter.mp he
    obtain ⟨u, hu, _, rfl⟩ := terms_mem ((plain_mem hn ht h01 w e).mp h1)
    have h3 := of_decide_eq_true h2
    simp only [hpos] at h3
    rw [Int.fmod_eq_emod_of_nonneg _ (by decide)] at h3
    exact oddL_mem.mpr ⟨u, hu, h3, rfl⟩
  · intro hx
    obtain ⟨p, hp, rfl⟩ := List.mem_map.mp hx
    obtain ⟨h1, h2⟩ := List.mem_filter.mp hp
    obtain ⟨z, u⟩ := p
    have h3 : z.fmod 2 = 1 := of_decide_eq_true h2
    have hz : z ≠ 0 := fun e => by rw [e] at h3; exact absurd h3 (by decide)
    refine List.mem_map.mpr ⟨(bitsK u n, mkRat z 1), List.mem_filter.mpr ⟨(plain_mem hn ht h01 w _).mpr ?_, decide_eq_true ?_⟩, rfl⟩
    · exact List.mem_map.mpr ⟨(z, u), List.mem_filter.mpr ⟨h1, by simpa using hz⟩, rfl⟩
    · show (mkRat z 1).num.fmod 2 = 1
      rw [hpos]; exact h3
theorem deg_ex : ∃ d m mx, Deg n (worthsP n table) (withinP n table) table d m mx := by
  have hs : (signsP table).length = 2 ^ n := by simpa [signsP] using ht
  unfold worthsP
  rw [sums_eq n hn _ hs, within_eq n hn _ ht]
  obtain rfl | rfl | rfl : n = 2 ∨ n = 3 ∨ n = 4 := by omega
  · exact ⟨_, _, _, deg2 table (mem_tabs 4 table ht h01)⟩
  · exact ⟨_, _, _, deg3 table (mem_tabs 8 table ht h01)⟩
  · match table, ht, h01 with
    | [x0, x1, x2, x3, x4, x5, x6, x7, x8, x9, x10, x11, x12, x13, x14, x15], _, h =>
      rw [wv_eq, av_eq]
      exact deg4 x0 x1 x2 x3 x4 x5 x6 x7 x8 x9 x10 x11 x12 x13 x14 x15 (h _ (by simp)) (h _ (by simp)) (h _ (by simp)) (h _ (by simp)) (h _ (by simp)) (h _ (by simp)) (h _ (by simp)) (h _ (by simp)) (h _ (by simp)) (h _ (by simp)) (h _ (by simp)) (h _ (by simp)) (h _ (by simp)) (h _ (by simp)) (h _ (by simp)) (h _ (by simp))
end

/-! ## up to three places -/
theorem sq_ok {n j M : Nat} (hn : n ≤ 4) {p : Poly} (hp : ND p) (hk : ∀ e ∈ p, e.1.length = n) (hl : p.length ≤ 16) (hd : DyP j M p) (hj : j ≤ 50) (hM : M ≤ 2 ^ 80) : MulOk p p n ∧ FolOk (pmul p p) := by
  have h16 : p.length * p.length ≤ 16 * 16 := Nat.mul_le_mul hl hl
  refine ⟨MulOk.of hp hp hk hk hd hd (by omega) (by omega) (Nat.le_trans hM (Nat.pow_le_pow_right (by decide) (by decide))) (Nat.le_trans hM (Nat.pow_le_pow_right (by decide) (by decide))), ?_⟩
  have hlen := len_padd (trms p p) []
  rw [trms_length] at hlen
  have h1 := DyP.padd (j := j + j) (M := 0) (M' := M * M) (trms p p) DyP.nil (hd.trms hd)
  refine FolOk.of (n := n) (ND_padd _ ND_nil) (Nat.le_trans hlen (by simp; omega)) (fun e he => ?_) (by omega) h1 (by omega) ?_
  · rcases keys_padd _ _ he with ⟨e', h2, h3⟩ | ⟨e', h2, _⟩
    · obtain ⟨ea, hea, eb, heb, rfl⟩ := trms_mem h2
      rw [← h3]
      show (addK ea.1 eb.1).length = n
      unfold addK
      rw [List.length_zipWith, hk ea hea, hk eb heb]; omega
    · cases h2
  · rw [Nat.zero_add, trms_length]
    have h2 : M * M ≤ 2 ^ 160 := Nat.le_trans (Nat.mul_le_mul hM hM) (by rw [← Nat.pow_add]; exact Nat.le_refl _)
    have h3 : p.length * p.length ≤ 2 ^ 8 := Nat.le_trans h16 (by decide)
    refine Nat.le_trans (Nat.mul_le_mul h3 h2) ?_
    rw [← Nat.pow_add]
    exact Nat.pow_le_pow_right (by decide) (by decide)
theorem rows_ok (n : Nat) (hn : 2 ≤ n ∧ n ≤ 3) : (∀ r ∈ rowsK n, ∀ b ∈ rowsK n, 0 ≤ otherK r b ∧ (otherK r b).toNat < 2 ^ n) ∧ ∀ r ∈ rowsK n, r.length = n ∧ ∀ x ∈ r, x = 0 ∨ x = 1 := by
  obtain rfl | rfl : n = 2 ∨ n = 3 := by omega
  all_goals decide +kernel
theorem Ls_ones (n : Nat) (hn : 2 ≤ n ∧ n ≤ 3) (g : List Int → Rat) : Ls n 0 ((ones n).map fun z => mkRat z (2 ^ n * 2 ^ n)) g = g (zeroK n) := by
  obtain rfl | rfl : n = 2 ∨ n = 3 := by omega
  · show g (zeroK 2) * mkRat 16 16 + (_ * mkRat 0 16 + (_ * mkRat 0 16 + (_ * mkRat 0 16 + 0))) = _
    rw [Rat.zero_mkRat, show mkRat 16 16 = 1 by decide +kernel]; grind
  · show g (zeroK 3) * mkRat 64 64 + (_ * mkRat 0 64 + (_ * mkRat 0 64 + (_ * mkRat 0 64 + (_ * mkRat 0 64 + (_ * mkRat 0 64 + (_ * mkRat 0 64 + (_ * mkRat 0 64 + 0))))))) = _
    rw [Rat.zero_mkRat, show mkRat 64 64 = 1 by decide +kernel]; grind

section
variable {n : Nat} (hn : 2 ≤ n ∧ n ≤ 3) {table : List Int} (ht : table.length = 2 ^ n) (h01 : ∀ x ∈ table, x = 0 ∨ x = 1)
include hn ht h01
theorem facts3 (w : World) : Facts3 n table := by
  have hn4 : 2 ≤ n ∧ n ≤ 4 := ⟨hn.1, by omega⟩
  have h8 : 2 ^ n ≤ 8 := Nat.pow_le_pow_right (n := 2) (by decide) hn.2
  have hs : (signsP table).length = 2 ^ n := by simpa [signsP] using ht
  have hw : (worthsP n table).length = 2 ^ n := by unfold worthsP; rw [sumsP_length, hs]
  have hT := toldR hn4 ht h01 w
  have kT : ∀ e ∈ toldP n table, e.1.length = n := fun e he => by obtain ⟨u, _, e1⟩ := hT.keys e he; rw [e1, bits_len]
  have nS : ND (spreadP n table) := ND_terms _ _ n hn4 hs
  have kS : ∀ e ∈ spreadP n table, ∃ u, e.1 = bitsK u n := fun e he => by
    obtain ⟨u, _, _, rfl⟩ := terms_mem he
    exact ⟨u, rfl⟩
  have kS' : ∀ e ∈ spreadP n table, e.1.length = n := fun e he => by obtain ⟨u, e1⟩ := kS e he; rw [e1, bits_len]
  have lS : (spreadP n table).length ≤ 16 := by
    have h := List.Sublist.length_le (terms_sub (signsP table) 1 n hs)
    have : (rowsK n).length = 2 ^ n := by simp [rowsK]
    rw [List.length_map, this] at h
    exact Nat.le_trans h (by omega)
  have dS : DyP 0 1 (spreadP n table) := fun e he => by
    obtain ⟨u, _, hm, rfl⟩ := terms_mem he
    obtain ⟨b, hb, hz⟩ := List.mem_map.mp hm
    refine ⟨(signsP table).getD u 0, rfl, ?_⟩
    rw [← hz]
    rcases h01 b hb with rfl | rfl <;> decide
  obtain ⟨m1, f1⟩ := sq_ok (by omega) hT.nd kT (Nat.le_trans hT.len (by omega)) hT.dy (by omega) (Nat.pow_le_pow_right (by decide) (by omega))
  obtain ⟨m2, f2⟩ := sq_ok (by omega) nS kS' lS dS (by decide) (Nat.one_le_two_pow)
  obtain ⟨r1, r2⟩ := rows_ok n hn
  have la : (alikeP (signsP table) n).length = 2 ^ n := by simp [alikeP, rowsK]
  have hlot : lotP n table < 2 ^ n := by
    have hp : (0 : Int) < ((2 ^ n : Nat) : Int) := by have := Nat.pow_pos (n := n) (show 0 < 2 by decide); omega
    have h1 := Int.emod_nonneg table.sum (Int.ne_of_gt hp)
    have h2 := Int.emod_lt_of_pos table.sum hp
    unfold lotP
    omega
  refine ⟨nS, m1, f1, ?_, m2, f2, ND_terms _ _ n hn4 la, r1, r2, ?_, ?_, ?_⟩
  · refine tbEq_of (ND_folded _) (by simp [ND, oneP]) (NZ_folded _) (fun e he => ?_) fun g => ?_
    · obtain rfl := List.mem_singleton.mp he
      show (1 : Rat) ≠ 0
      decide +kernel
    · rw [I_square hn hw hT.fn, alike_worths hn ht h01, Ls_ones n hn]
      show _ = g (zeroK n) * 1 + 0
      grind
  · refine tbEq_of (ND_folded _) (ND_terms _ _ n hn4 la) (NZ_folded _) (NZ_terms _ _ n (by decide)) fun g => ?_
    have e := I_square (p := spreadP n table) (l := signsP table) (b := 1) hn hs (fun g => I_terms _ _ _ g) g
    rw [e, I_terms]
  · refine atOk_of (n := n) (M := 2 ^ n) (by omega) kS lS (fun e he => ?_) (Nat.pow_le_pow_right (by decide) (by omega)) (fun v hv => ?_) (by simp [vals5, bits_len])
    · have h := (dS e he).up n
      rw [Nat.zero_add, Nat.one_mul] at h
      exact h
    · obtain ⟨b, hb, rfl⟩ := List.mem_map.mp hv
      rcases bitsK01 _ _ b hb with rfl | rfl
      · exact dy_one.mono (by decide)
      · exact dy_none.mono (by decide)
  · have e := I_terms (signsP table) 1 n (mu (vals5 n table))
    rw [pat_I]
    unfold spreadP worthsP
    rw [e, sums_eq n hn4 _ hs]
    show Ls n 0 _ (mu (sv (lotP n table) n)) = _
    generalize lotP n table = lot at hlot
    obtain rfl | rfl : n = 2 ∨ n = 3 := by omega
    · exact ats2 _ hs lot hlot
    · exact ats3 _ hs lot hlot
end

theorem facts2 (w : World) {n : Nat} (hn : 2 ≤ n ∧ n ≤ 4) {table places : List Int} (ht : table.length = 2 ^ n) (h01 : ∀ x ∈ table, x = 0 ∨ x = 1) (hp : places.length = n) (hp3 : ∀ x ∈ places, -2 ≤ x ∧ x ≤ 3) : ∃ d m mx, Facts2 n table places d m mx := by
  obtain ⟨d, m, mx, h1, h2, h3, h4, h5, h6, h7, h8, h9, h10, h11, h12⟩ := deg_ex hn ht h01
  refine ⟨d, m, mx, f_kt hn ht h01, f_kp hn ht h01, f_e1 hn ht h01 w, f_e2 hn ht h01 w, fun h => facts3 ⟨hn.1, by omega⟩ ht h01 w, (toldR hn ht h01 w).nd, (plainR hn ht h01 w).nd, f_lp hn ht h01 w, f_at6 hn ht h01 hp hp3 w, f_at7 hn ht h01 hp hp3 w,
    f_sh hn ht h01 hp hp3 w, f_e6 w hn ht h01 hp, ?_, ?_, h3, h4, h5, h6, h7, h8, h9, h10, h11, h12⟩
  · rcases List.mem_cons.mp h1 with h | h
    · rw [h]; exact List.mem_cons_self
    · exact List.mem_cons_of_mem _ ((odd_mem hn ht h01 w _).mpr h)
  · intro x hx
    rcases List.mem_cons.mp hx with h | h
    · exact h2 x (by rw [h]; exact List.mem_cons_self)
    · exact h2 x (List.mem_cons_of_mem _ ((odd_mem hn ht h01 w _).mp h))
end Mine
end

section
open PySem PySem.W PyProof.Rows PySem.Calls
set_option autoImplicit false
set_option maxRecDepth 100000
namespace Mine

theorem draw_lt (cells : List Int) (p many : Nat) (h : 0 < many) : drawV cells p many < many := Nat.mod_lt _ h
theorem law_all (prog : Program) (w : World) (script : List Int) (hsl : script.length ≤ 63) : Fn prog w 12 37 [.list (script.map .int)] (.bool true) := by
  have hn := drawN (script.take 21)
  have ht : (lawTable (script.take 21)).length = 2 ^ lawN (script.take 21) := by simp [lawTable]
  have h01 : ∀ x ∈ lawTable (script.take 21), x = 0 ∨ x = 1 := fun x hx => by
    obtain ⟨i, _, rfl⟩ := List.mem_map.mp hx
    have := draw_lt (script.take 21) (1 + i) 2 (by decide)
    omega
  have hp : (lawPlaces (script.take 21)).length = lawN (script.take 21) := by simp [lawPlaces]
  have hp3 : ∀ x ∈ lawPlaces (script.take 21), -2 ≤ x ∧ x ≤ 3 := fun x hx => by
    obtain ⟨i, _, rfl⟩ := List.mem_map.mp hx
    have := draw_lt (script.take 21) (1 + 2 ^ lawN (script.take 21) + i) 6 (by decide)
    omega
  obtain ⟨d, m, mx, f2⟩ := facts2 w hn ht h01 hp hp3
  exact law_walk script _ rfl _ _ rfl rfl (facts1 prog w hn ht h01) d m mx f2 hsl
end Mine
end

section
open PySem PySem.W PyProof.Rows PySem.Calls
set_option autoImplicit false
set_option maxRecDepth 100000
namespace Mine
noncomputable def keepIdx : List Nat := [1, 3, 5, 6, 8, 9, 10, 11, 12, 13, 14, 15, 16, 18, 19, 20, 21, 22, 23, 24, 25, 26, 27, 29, 30, 31, 32, 33, 34, 35, 36, 37]
noncomputable abbrev viewP : Program := view PySem.Challenge.pw_xm0120_01 keepIdx
/-- the whole top in one check, by the library's quick twins of the run (their names are given by the kit: te, then the name's hash) -/
theorem left1 : LeftO PySem.Challenge.pw_xm0120_01 viewP [] (fun s => xlAt viewP [] s && recOk (RowW.records PySem.Challenge.rw_xm0120_01.row.toRowW) s) (Hook.obs Hook.none) (Hook.val Hook.none) 2426 := by
  intro w
  unfold openEnds fencedOpening topFrom
  first
    | rw [PySem.W.Fast.te10274390034422433532, PySem.W.Fast.te14082659384304107361, PySem.W.Fast.te14289696077712309145, PySem.W.Fast.te4187177175401517315, PySem.W.Fast.te14364793385576792824]
    | skip
  kernel_rfl
theorem two_ints {vs : List Value} {i j : Int} (h : IntsAre vs [i, j]) : ∃ t u, vs = [.int i t, .int j u] := by
  cases h with
  | cons n t h => cases h with
    | cons m u h => cases h with
      | nil => exact ⟨t, u, rfl⟩
theorem sta_of {p : Program} {w : World} {loose : List Str} {mean : ExcName → Option Value} {mg mb : Str → Option Value} {h : Heap} (T : Top p loose mean mg mb h) (B : Tables p w mg h) (hrec : recsOf p = defIdx.map dfAt)
    (hfree : ∀ x ∈ bnames, x ∉ startupNames ∧ x ∉ loose ∧ x ∉ (recsOf p).map (·.name) ∧ x ∉ (litsOf p).map (·.1) ∧ x ∉ (clssOf p loose).map (·.name))
    (e0 : tupIntsOf p "R0" = some [0, 1]) (e1 : tupIntsOf p "R1" = some [1, 1]) : Sta h mg mb where
  g := T.g
  b := T.b
  nolimit := T.nolimit
  builtins := T.builtins
  free := fun x hx => let ⟨a, b, c, d, e⟩ := hfree x hx; T.free x a b c d e
  fn := fun i hi => by
    obtain ⟨a, o, pm, code, doc, h1, h2, h3, h4⟩ := T.fn (dfAt i) (by rw [hrec]; exact List.mem_map.mpr ⟨i, hi, rfl⟩)
    exact ⟨a, o, pm, code, doc, h1, h2, h3, h4⟩
  r0 := by
    obtain ⟨a, vs, h1, h2, h3⟩ := B.tupI _ _ e0
    obtain ⟨t, u, rfl⟩ := two_ints h3
    exact ⟨a, t, u, h1, h2⟩
  r1 := by
    obtain ⟨a, vs, h1, h2, h3⟩ := B.tupI _ _ e1
    obtain ⟨t, u, rfl⟩ := two_ints h3
    exact ⟨a, t, u, h1, h2⟩
theorem ints_rdl {prog : Program} {w : World} {X : Addr → Prop} {h : Heap} {vs : List Value} {ks : List Int} (x : IntsAre vs ks) : RdL prog w X h (ks.map .int) vs := by
  induction x with
  | nil => simp [RdL]
  | cons n t _ ih =>
    simp only [List.map_cons, RdL]
    exact ⟨_, _, rfl, Rd.int, ih⟩
theorem view_recs : recsOf viewP = defIdx.map dfAt := by kernel_rfl
theorem view_free : ∀ x ∈ bnames, x ∉ startupNames ∧ x ∉ looseW viewP [] ∧ x ∉ (recsOf viewP).map (·.name) ∧ x ∉ (litsOf viewP).map (·.1) ∧ x ∉ (clssOf viewP (looseW viewP [])).map (·.name) := of_decide_eq_true (by kernel_rfl)
theorem said1 : PySem.W.OpenLaw.wellSaid PySem.Challenge.rw_xm0120_01 = true := by
  first
    | rw [PySem.W.Fast.te9446332074065402090]
    | skip
  kernel_rfl
end Mine
end

open PySem PySem.W PyProof.Rows PySem.Calls Mine
set_option maxRecDepth 100000 in
set_option maxHeartbeats 8000000 in
theorem PySem.Challenge.cw_xm0120_01_holds : PySem.Challenge.rw_xm0120_01.Holds := by
  w_on
  refine holds_law Mine.said1 fun said => ?_
  refine holds_open (q := Mine.viewP) (loose := []) (Xt := fun s => xlAt Mine.viewP [] s && recOk (RowW.records PySem.Challenge.rw_xm0120_01.row.toRowW) s) (XP := XL Mine.viewP []) (Yf := Hook.obs Hook.none) (Ya := Hook.val Hook.none) (YP := Hook.says Hook.none) (N := 2426) Mine.left1
    (Hook.of Hook.none) (Hook.keeps Hook.none) (fun s e => xl_of s (Bool.and_eq_true_iff.mp e).1) XL.keeps (by rfl) (by rfl) (by rfl) (fun s e => recFacts_of (Bool.and_eq_true_iff.mp e).2) (by rfl) (by first | assumption | decide +kernel) (by decide +kernel) ⟨rfl, rfl, rfl, rfl, rfl, by decide +kernel⟩ ?hw ?hc
  case hw => w_witness2
  intro w s₀ s₁ mg mb G Y fa o pm cd doc dV kV ho hd hcd hD hmg hg args vals as hpre hlay hrd hwl hlo
  refine Ground.open G ?_
  intro T B D TE TW
  wrow_args hpre hlay hrd hwl hlo
  rename_i script _ _ _ _ _ _ _ _ vs _ hL _ _ _ hI _ hc _
  have S : Sta s₁.heap mg mb := Mine.sta_of T B Mine.view_recs Mine.view_free (by kernel_rfl) (by kernel_rfl)
  refine wpAny_mono (Mine.law_all _ w script (by omega) s₁.heap mg mb fa callerA s₁ (fun _ => False) [_] S hmg (fun _ _ e => e) (by refine ⟨rfl, ?_, ?_⟩ <;> decide +kernel) (fun _ h => h.elim) ?_) (fun v s' hv => ?_) (fun _ _ h => h.elim)
  · simp only [RdL]
    exact ⟨_, _, rfl, Rd.list id hL (Mine.ints_rdl hI), rfl⟩
  · obtain ⟨⟨h', tk, rfl, hk⟩, hv⟩ := hv
    obtain rfl := hv.toBool
    refine GoodW.toG ⟨.inl ⟨_, .bool true, [], rfl, fun _ => rfl, .bool true, ?_, fun h => ?_⟩, hk, rfl, hg⟩
    · kernel_rfl
    · exact ⟨List.nodup_nil, fun _ h => by cases h⟩
