import PyProof.Rows.All
import Wide.All
import OpenK.AllK
import Wide.FinOn
import PySem.Challenge.RW_no0500_01
set_option Elab.async false
set_option maxRecDepth 100000
set_option linter.unusedVariables false
namespace Mine
open PySem PySem.W PyProof.Rows
set_option maxHeartbeats 8000000 in
open_top hd for PySem.Challenge.rw_no0500_01
end Mine

set_option compiler.extract_closed false
set_option genSizeOf false
set_option genInjectivity false
namespace Mine
section
open PySem PySem.Spec PySem.Calls PySem.W PyProof.Rows
/-! plain values, and how a heap bears them -/
inductive Val where
  | none
  | bool (b : Bool)
  | int (i : Int)
  | str (s : Str)
  | tup (xs : List Val)
  | list (xs : List Val)
  | cell

/-- what a representation keeps off: the one mutable list, and more places -/
structure Dm where
  m : Option Addr
  ex : List Addr
noncomputable def Dm.off (D : Dm) (a : Addr) : Prop := D.m ≠ some a ∧ a ∉ D.ex

mutual
noncomputable def Rep (D : Dm) (h : Heap) : Val → Value → Prop
  | .none, v => v = .none
  | .bool b, v => v = .bool b
  | .int i, v => ∃ t, v = .int i t
  | .str s, v => ∃ t, v = .str s t
  | .tup xs, v => ∃ a us, v = .ref a ∧ D.off a ∧ h.IsTuple a us.toArray ∧ RepL D h xs us
  | .list xs, v => ∃ a us, v = .ref a ∧ D.off a ∧ h.IsList a us.toArray ∧ RepL D h xs us
  | .cell, v => ∃ c, D.m = some c ∧ v = .ref c
noncomputable def RepL (D : Dm) (h : Heap) : List Val → List Value → Prop
  | [], us => us = []
  | x :: xs, us => ∃ u r, us = u :: r ∧ Rep D h x u ∧ RepL D h xs r
end

/-- what h keeps, but for the one mutable list -/
noncomputable def Kept (D : Option Addr) (h h' : Heap) : Prop := ∀ b o, D ≠ some b → h.get? b = some o → h'.get? b = some o
theorem Kept.refl {D : Option Addr} {h : Heap} : Kept D h h := fun _ _ _ e => e
theorem Kept.trans {D : Option Addr} {h h' h'' : Heap} (a : Kept D h h') (b : Kept D h' h'') : Kept D h h'' := fun x o n e => b x o n (a x o n e)
theorem Kept.of_all {D : Option Addr} {h h' : Heap} (a : ∀ b o, h.get? b = some o → h'.get? b = some o) : Kept D h h' := fun x o _ e => a x o e
theorem Kept.all {h h' : Heap} (a : Kept .none h h') : ∀ b o, h.get? b = some o → h'.get? b = some o := fun b o e => a b o (fun q => by cases q) e
theorem Kept.of_none {D : Option Addr} {h h' : Heap} (a : Kept .none h h') : Kept D h h' := Kept.of_all a.all

theorem fresh_none {h : Heap} {p : Addr} (hp : h.objs.size ≤ p) : h.get? p = none := by
  cases e : h.get? p with
  | none => rfl
  | some o => exact absurd (Heap.lt_size e) (Nat.not_lt.mpr hp)
theorem isList_kept {h h' : Heap} {a : Addr} {us : Array Value} (x : h.IsList a us) (k : ∀ o, h.get? a = some o → h'.get? a = some o) : h'.IsList a us :=
  let ⟨o, ho, r⟩ := x; ⟨o, k o ho, r⟩

-- a representation stands wherever its objects stand; its class tells its objects from a frame's dict
mutual
theorem Rep.keepX {D D' : Dm} {h h' : Heap} (hm : ∀ c, D.m = some c → D'.m = some c) (hb : ∀ a o, D.off a → h.get? a = some o → (∃ us n, o.data = .seq us n) → h'.get? a = some o ∧ D'.off a) :
    ∀ {x : Val} {u : Value}, Rep D h x u → Rep D' h' x u
  | .none, _, r => r
  | .bool _, _, r => r
  | .int _, _, r => r
  | .str _, _, r => r
  | .cell, _, ⟨c, e, r⟩ => ⟨c, hm c e, r⟩
  | .tup xs, _, ⟨a, us, e, n, i, r⟩ => by
    obtain ⟨o, ho, hc, hd⟩ := i
    obtain ⟨h1, h2⟩ := hb a o n ho ⟨_, hd⟩
    exact ⟨a, us, e, h2, ⟨o, h1, hc, hd⟩, RepL.keepX hm hb r⟩
  | .list xs, _, ⟨a, us, e, n, i, r⟩ => by
    obtain ⟨o, ho, hc, hd⟩ := i
    obtain ⟨h1, h2⟩ := hb a o n ho ⟨_, hd⟩
    exact ⟨a, us, e, h2, ⟨o, h1, hc, hd⟩, RepL.keepX hm hb r⟩
theorem RepL.keepX {D D' : Dm} {h h' : Heap} (hm : ∀ c, D.m = some c → D'.m = some c) (hb : ∀ a o, D.off a → h.get? a = some o → (∃ us n, o.data = .seq us n) → h'.get? a = some o ∧ D'.off a) :
    ∀ {xs : List Val} {us : List Value}, RepL D h xs us → RepL D' h' xs us
  | [], _, r => r
  | _ :: _, _, ⟨u, r, e, h1, h2⟩ => ⟨u, r, e, Rep.keepX hm hb h1, RepL.keepX hm hb h2⟩
end

theorem Rep.kept {D : Dm} {h h' : Heap} {x : Val} {u : Value} (r : Rep D h x u) (k : Kept D.m h h') : Rep D h' x u :=
  r.keepX (fun _ e => e) fun a o n e _ => ⟨k a o n.1 e, n⟩
theorem RepL.kept {D : Dm} {h h' : Heap} {xs : List Val} {us : List Value} (r : RepL D h xs us) (k : Kept D.m h h') : RepL D h' xs us :=
  r.keepX (fun _ e => e) fun a o n e _ => ⟨k a o n.1 e, n⟩
/-- from no mutable list to a new one -/
theorem Rep.newD {ex : List Addr} {h h' : Heap} {x : Val} {u : Value} {c : Addr} (r : Rep ⟨.none, ex⟩ h x u) (k : ∀ b o, h.get? b = some o → h'.get? b = some o) (hc : h.get? c = none) : Rep ⟨some c, ex⟩ h' x u :=
  Rep.keepX (D := ⟨.none, ex⟩) (D' := ⟨some c, ex⟩) (fun _ e => by cases e) (fun a o n e _ => ⟨k a o e, ⟨fun q => (by cases q; rw [hc] at e; cases e), n.2⟩⟩) r

theorem RepL.length {D : Dm} {h : Heap} : ∀ {xs : List Val} {us : List Value}, RepL D h xs us → us.length = xs.length
  | [], _, r => by cases r; rfl
  | _ :: _, _, ⟨_, _, e, _, r⟩ => by subst e; simp [r.length]
theorem RepL.get {D : Dm} {h : Heap} : ∀ {xs : List Val} {us : List Value} {i : Nat} {x : Val}, RepL D h xs us → xs[i]? = some x → ∃ u, us[i]? = some u ∧ Rep D h x u
  | [], _, _, _, _, e => by simp at e
  | y :: ys, _, 0, x, ⟨u, r, e, h1, _⟩, q => by subst e; simp at q; subst q; exact ⟨u, by simp, h1⟩
  | y :: ys, _, i + 1, x, ⟨u, r, e, _, h2⟩, q => by
    subst e
    obtain ⟨u', e', r'⟩ := h2.get (i := i) (x := x) (by simpa using q)
    exact ⟨u', by simpa using e', r'⟩
theorem RepL.append {D : Dm} {h : Heap} : ∀ {xs ys : List Val} {us vs : List Value}, RepL D h xs us → RepL D h ys vs → RepL D h (xs ++ ys) (us ++ vs)
  | [], _, _, _, r, q => by cases r; exact q
  | _ :: _, _, _, _, ⟨u, r, e, h1, h2⟩, q => by subst e; exact ⟨u, _, rfl, h1, h2.append q⟩
theorem RepL.single {D : Dm} {h : Heap} {x : Val} {u : Value} (r : Rep D h x u) : RepL D h [x] [u] := ⟨u, [], rfl, r, rfl⟩
theorem RepL.cons {D : Dm} {h : Heap} {x : Val} {u : Value} {xs : List Val} {us : List Value} (r : Rep D h x u) (q : RepL D h xs us) : RepL D h (x :: xs) (u :: us) := ⟨u, us, rfl, r, q⟩

/-- the ground: the text's own objects -/
noncomputable def WX (w : World) (B : Heap) : Prop :=
  (hd.heap_39 w.params).In B ∧ ∃ mean mg mb, Top hd.view_39 (looseW hd.view_39 [Str.ofString "number_text"]) mean mg mb B
noncomputable def Base (w : World) (D : Dm) (h : Heap) : Prop := ∃ B, WX w B ∧ (∀ b o, B.get? b = some o → h.get? b = some o) ∧ (∀ c, D.m = some c → B.get? c = none) ∧ B.objs.size ≤ h.objs.size
/-- room for k more frames -/
noncomputable def AOk (k : Nat) (A : Around) : Prop := A.handled = none ∧ A.depth + k < recursionLimit ∧ A.units + 100 * k < cLine
theorem AOk.mono {j k : Nat} {A : Around} (x : AOk k A) (h : j ≤ k) : AOk j A := ⟨x.1, by have := x.2.1; lia, by have := x.2.2; lia⟩
theorem AOk.deeper {j k : Nat} {A : Around} {env : Env} (x : AOk k A) (h : j < k) : AOk j (A.deeper env) :=
  ⟨x.1, by have := x.2.1; show A.depth + 1 + j < _; lia, by have := x.2.2; show A.units + 3 + 100 * j < _; lia⟩

/-- the mutable list's content -/
noncomputable def Store (D : Dm) (σ : List Val) (h : Heap) : Prop :=
  (∀ a ∈ D.ex, h.get? a ≠ none) ∧ ∀ c, D.m = some c → ∃ us n, h.get? c = some { cls := .type "list", data := .seq us n } ∧ RepL D h σ us.toList
theorem live_of_all {h h' : Heap} (k : ∀ b o, h.get? b = some o → h'.get? b = some o) {a : Addr} (e : h.get? a ≠ none) : h'.get? a ≠ none := by
  cases g : h.get? a with
  | none => exact absurd g e
  | some o => rw [k a o g]; intro q; cases q
theorem Store.kept {D : Dm} {σ : List Val} {h h' : Heap} (x : Store D σ h) (k : ∀ b o, h.get? b = some o → h'.get? b = some o) : Store D σ h' :=
  ⟨fun a e => live_of_all k (x.1 a e), fun c e => let ⟨us, n, g, r⟩ := x.2 c e; ⟨us, n, k _ _ g, r.kept (.of_all k)⟩⟩
theorem Store.cell {D : Dm} {σ : List Val} {h : Heap} {c : Addr} (x : Store D σ h) (e : D.m = some c) : ∃ us n, h.get? c = some { cls := .type "list", data := .seq us n } ∧ RepL D h σ us.toList := x.2 c e
theorem Store.off {D : Dm} {σ : List Val} {h : Heap} {a : Addr} (x : Store D σ h) (e : h.get? a = none) : D.off a :=
  ⟨fun q => (by obtain ⟨_, _, g, _⟩ := x.2 a q; rw [e] at g; cases g), fun q => x.1 a q e⟩

/-- what a step leaves: the same world, a heap that keeps all but the mutable list -/
noncomputable def Step (D : Option Addr) (s s' : Shared) : Prop := ∃ h' tk, s' = { s with heap := h', toks := tk } ∧ Kept D s.heap h'
theorem Step.refl {D : Option Addr} {s : Shared} : Step D s s := ⟨s.heap, s.toks, rfl, .refl⟩
theorem Step.trans {D : Option Addr} {s s' s'' : Shared} (a : Step D s s') (b : Step D s' s'') : Step D s s'' := by
  obtain ⟨h', tk, rfl, k⟩ := a
  obtain ⟨h'', tk', rfl, k'⟩ := b
  exact ⟨h'', tk', rfl, k.trans k'⟩
theorem Step.heap {D : Option Addr} {s s' : Shared} (a : Step D s s') : Kept D s.heap s'.heap := by obtain ⟨h', tk, rfl, k⟩ := a; exact k
theorem Step.tok {D : Option Addr} {s : Shared} {n : Nat} : Step D s { s with toks := n } := ⟨s.heap, n, rfl, .refl⟩
theorem Step.of_all {D : Option Addr} {s : Shared} {h' : Heap} {n : Nat} (k : ∀ b o, s.heap.get? b = some o → h'.get? b = some o) : Step D s { s with heap := h', toks := n } := ⟨h', n, rfl, .of_all k⟩
theorem Step.push {D : Option Addr} {s : Shared} {o : Obj} {n : Nat} : Step D s { s with heap := s.heap.push o, toks := n } := ⟨_, n, rfl, .of_all fun b o e => Heap.get?_push_of_some _ e⟩
theorem Step.of_none {D : Option Addr} {s s' : Shared} (a : Step .none s s') : Step D s s' := by obtain ⟨h', tk, rfl, k⟩ := a; exact ⟨h', tk, rfl, k.of_none⟩

/-- a call of the def at f -/
noncomputable def Fn (w : World) (k : Nat) (f : Addr) (D : Dm) (args : List Val) (σ : List Val) (r : Val) (σ' : List Val) : Prop :=
  ∀ (A : Around) (E : Value → Shared → Prop) (s : Shared) (us : List Value), AOk k A → Base w D s.heap → RepL D s.heap args us → Store D σ s.heap →
    wpAny (model PySem.Challenge.rw_no0500_01.row.prog w) A (call (.ref f) us) (fun v s' => Step D.m s s' ∧ Rep D s'.heap r v ∧ Store D σ' s'.heap) E s

/-- where a name's value stands -/
noncomputable def HeldAt (env : Env) (h : Heap) (x : Str) (u : Value) : Prop :=
  match env.kindOf x with
  | some .local => ∃ m, h.Ns env.locals m ∧ m x = some u
  | some .cell => ∃ c o, env.cells.lookup x = some c ∧ h.get? c = some o ∧ o.data = .cell (some u)
  | some .free => ∃ c o, env.cells.lookup x = some c ∧ h.get? c = some o ∧ o.data = .cell (some u)
  | _ => False

noncomputable abbrev Rho := List (Str × Val)

/-- a frame of ours: its kind, its names' values, the ground -/
structure Frame (env : Env) : Prop where
  kind : env.scope.kind = .function
  globals : env.globals = mainGlobals
  builtins : env.builtins = builtinsNs
  apart : ∀ x y c, env.cells.lookup x = some c → env.cells.lookup y = some c → x = y

structure St (w : World) (B : Heap) (env : Env) (D : Dm) (ρ : Rho) (σ : List Val) (h : Heap) : Prop where
  frame : Frame env
  names : ∀ x v, ρ.lookup x = some v → ∃ u, HeldAt env h x u ∧ Rep D h v u
  ground : WX w B
  fr : ∃ m, Fr B env.locals h m
  newD : ∀ c, D.m = some c → B.get? c = none
  newC : ∀ x c, env.cells.lookup x = some c → B.get? c = none
  cells : ∀ x c, env.cells.lookup x = some c → ∃ o v, h.get? c = some o ∧ o.data = .cell v
  store : Store D σ h

/-- an expression: its value -/
noncomputable def Ev (w : World) (k : Nat) (env : Env) (D : Dm) (ρ : Rho) (σ : List Val) (e : Expr) (v : Val) (σ' : List Val) : Prop :=
  ∀ (A : Around) (E : Value → Shared → Prop) (s : Shared) (B : Heap), AOk k A → St w B env D ρ σ s.heap →
    wpAny (model PySem.Challenge.rw_no0500_01.row.prog w) A (eval e env) (fun u s' => Step D.m s s' ∧ Rep D s'.heap v u ∧ Store D σ' s'.heap) E s
/-- a test: its truth -/
noncomputable def Tst (w : World) (k : Nat) (env : Env) (D : Dm) (ρ : Rho) (σ : List Val) (e : Expr) (b : Bool) (σ' : List Val) : Prop :=
  ∀ (A : Around) (E : Value → Shared → Prop) (s : Shared) (B : Heap), AOk k A → St w B env D ρ σ s.heap →
    wpAny (model PySem.Challenge.rw_no0500_01.row.prog w) A (isTrue e env (eval e env)) (fun c s' => c = b ∧ Step D.m s s' ∧ Store D σ' s'.heap) E s

/-- a HeldAt outlives what keeps its objects -/
theorem HeldAt.kept {env : Env} {h h' : Heap} {x : Str} {u : Value} (S : HeldAt env h x u) (k : ∀ b o, h.get? b = some o → (∀ us n, o.data ≠ .seq us n) → h'.get? b = some o) : HeldAt env h' x u := by
  unfold HeldAt at *
  split at S
  · obtain ⟨m, ⟨o, es, ep, ho, hd, r⟩, hm⟩ := S
    exact ⟨m, ⟨o, es, ep, k _ _ ho (by rw [hd]; intro _ _ q; cases q), hd, r⟩, hm⟩
  · obtain ⟨c, o, e, ho, hd⟩ := S
    exact ⟨c, o, e, k _ _ ho (by rw [hd]; intro _ _ q; cases q), hd⟩
  · obtain ⟨c, o, e, ho, hd⟩ := S
    exact ⟨c, o, e, k _ _ ho (by rw [hd]; intro _ _ q; cases q), hd⟩
  · exact S.elim

theorem St.step {w : World} {B : Heap} {env : Env} {D : Dm} {ρ : Rho} {σ σ' : List Val} {s s' : Shared} (S : St w B env D ρ σ s.heap) (p : Step D.m s s') (st : Store D σ' s'.heap) : St w B env D ρ σ' s'.heap := by
  obtain ⟨h', tk, rfl, k⟩ := p
  -- what is no list stands
  have kk : ∀ b o, s.heap.get? b = some o → (∀ us n, o.data ≠ .seq us n) → h'.get? b = some o := fun b o e hn => by
    refine k b o (fun q => ?_) e
    obtain ⟨us, n, g, _⟩ := S.store.cell q
    rw [g] at e; cases e
    exact hn us n rfl
  refine ⟨S.frame, fun x v e => ?_, S.ground, ?_, S.newD, S.newC, fun x c e => ?_, st⟩
  · obtain ⟨u, a, b⟩ := S.names x v e
    exact ⟨u, a.kept kk, b.kept k⟩
  · obtain ⟨m, F⟩ := S.fr
    refine ⟨m, ⟨?_, fun b o e => ?_, F.above⟩⟩
    · obtain ⟨o, es, ep, ho, hd, r⟩ := F.ns
      exact ⟨o, es, ep, kk _ _ ho (by rw [hd]; intro _ _ q; cases q), hd, r⟩
    · exact k b o (fun q => by rw [S.newD b q] at e; cases e) (F.keep b o e)
  · obtain ⟨o, v, g, hd⟩ := S.cells x c e
    exact ⟨o, v, kk _ _ g (by rw [hd]; intro _ _ q; cases q), hd⟩

/-- sequencing -/
theorem seq {w : World} {k : Nat} {B : Heap} {env : Env} {D : Dm} {ρ : Rho} {σ σ₁ : List Val} {e : Expr} {v : Val} {A : Around} {E : Value → Shared → Prop} {s : Shared} {Q : Value → Shared → Prop}
    (x : Ev w k env D ρ σ e v σ₁) (hA : AOk k A) (S : St w B env D ρ σ s.heap)
    (h : ∀ u s', Step D.m s s' → Rep D s'.heap v u → St w B env D ρ σ₁ s'.heap → Q u s') : wpAny (model PySem.Challenge.rw_no0500_01.row.prog w) A (eval e env) Q E s :=
  wpAny_mono (x A E s B hA S) (fun u s' ⟨p, r, st⟩ => h u s' p r (S.step p st)) fun _ _ y => y
theorem seqT {w : World} {k : Nat} {B : Heap} {env : Env} {D : Dm} {ρ : Rho} {σ σ₁ : List Val} {e : Expr} {b : Bool} {A : Around} {E : Value → Shared → Prop} {s : Shared} {Q : Bool → Shared → Prop}
    (x : Tst w k env D ρ σ e b σ₁) (hA : AOk k A) (S : St w B env D ρ σ s.heap)
    (h : ∀ s', Step D.m s s' → St w B env D ρ σ₁ s'.heap → Q b s') : wpAny (model PySem.Challenge.rw_no0500_01.row.prog w) A (isTrue e env (eval e env)) Q E s :=
  wpAny_mono (x A E s B hA S) (fun c s' ⟨e, p, st⟩ => e ▸ h s' p (S.step p st)) fun _ _ y => y
end

section
open PySem PySem.Spec PySem.Calls PySem.W PyProof.Rows
noncomputable abbrev PGm := PySem.Challenge.rw_no0500_01.row.prog

section
variable {w : World} {k : Nat} {env : Env} {D : Dm} {ρ : Rho} {σ σ₁ σ₂ σ₃ : List Val}

/-! names, constants -/
theorem Ev.name {x : Str} {pos : Pos} {v : Val} (hx : ρ.lookup x = some v) (hd : (x == ("__debug__" : Str)) = false) (hc : (x == ("__classdict__" : Str)) = false) :
    Ev w k env D ρ σ (.Name x pos) v σ := by
  intro A E s B hA S
  obtain ⟨u, sl, r⟩ := S.names x v hx
  have fin : Step D.m s s ∧ Rep D s.heap v u ∧ Store D σ s.heap := ⟨.refl, r, S.store⟩
  unfold HeldAt at sl
  split at sl
  · rename_i hk
    obtain ⟨m, hn, hm⟩ := sl
    exact wpAny_Name (wpAny_loadName_local S.frame.kind hk hn hm fin) hd
  · rename_i hk
    obtain ⟨c, o, hl, ho, hdt⟩ := sl
    exact wpAny_Name (wpAny_loadName_cell S.frame.kind hk hl ⟨o, ho, hdt⟩ fin) hd
  · rename_i hk
    obtain ⟨c, o, hl, ho, hdt⟩ := sl
    exact wpAny_Name (wpAny_loadName_free S.frame.kind hk hl ⟨o, ho, hdt⟩ fin hc) hd
  · exact sl.elim

theorem Ev.int {i : Int} {kd : Nat} {pos : Pos} : Ev w k env D ρ σ (.Constant (.int i) kd pos) (.int i) σ := fun A E s B hA S =>
  wpAny_Constant_int ⟨.tok, ⟨_, rfl⟩, S.store⟩
theorem Ev.str {x : Str} {kd : Nat} {pos : Pos} : Ev w k env D ρ σ (.Constant (.str x) kd pos) (.str x) σ := fun A E s B hA S =>
  Constant_str ⟨.tok, ⟨_, rfl⟩, S.store⟩
theorem Ev.none {kd : Nat} {pos : Pos} : Ev w k env D ρ σ (.Constant .none kd pos) .none σ := fun A E s B hA S =>
  wpAny_Constant_none ⟨.refl, rfl, S.store⟩
/-- the mutable list's place is taken already -/
noncomputable def DIn (D : Dm) (h : Heap) : Prop := ∀ a, h.get? a = none → D.off a
theorem Store.din {D : Dm} {σ : List Val} {h : Heap} (x : Store D σ h) : DIn D h := fun a e => x.off e
noncomputable def Bin (w : World) (op : Operator) (D : Dm) (a b v : Val) : Prop :=
  ∀ (A : Around) (E : Value → Shared → Prop) (s : Shared) (x y : Value), AOk 0 A → DIn D s.heap → Rep D s.heap a x → Rep D s.heap b y →
    wpAny (model PGm w) A (binaryOp op x y) (fun u s' => Step .none s s' ∧ Rep D s'.heap v u) E s
theorem Ev.bin {l r : Expr} {op : Operator} {pos : Pos} {a b v : Val} (hl : Ev w k env D ρ σ l a σ₁) (hr : Ev w k env D ρ σ₁ r b σ₂) (ho : Bin w op D a b v) :
    Ev w k env D ρ σ (.BinOp l op r pos) v σ₂ := by
  intro A E s B hA S
  refine wpAny_BinOp (seq hl hA S fun x s₁ p₁ r₁ S₁ => seq hr hA S₁ fun y s₂ p₂ r₂ S₂ => ?_)
  refine wpAny_mono (ho A E s₂ x y (hA.mono (Nat.zero_le _)) S₂.store.din (r₁.kept p₂.heap) r₂) (fun u s₃ ⟨p₃, r₃⟩ => ⟨p₁.trans (p₂.trans p₃.of_none), r₃, ?_⟩) fun _ _ e => e
  exact (S₂.store).kept p₃.heap.all
theorem Bin.addI {a b : Int} : Bin w .Add D (.int a) (.int b) (.int (a + b)) := fun A E s x y hA hD ⟨t, e⟩ ⟨u, f⟩ => by
  subst e f; (with_reducible refine PyProof.Rows.add_int ?_); exact ⟨.tok, ⟨_, rfl⟩⟩
theorem Bin.subI {a b : Int} : Bin w .Sub D (.int a) (.int b) (.int (a - b)) := fun A E s x y hA hD ⟨t, e⟩ ⟨u, f⟩ => by
  subst e f; (with_reducible refine PyProof.Rows.sub_int ?_); exact ⟨.tok, ⟨_, rfl⟩⟩
theorem Bin.subB {a b : Bool} : Bin w .Sub D (.bool a) (.bool b) (.int ((if a then 1 else 0) - (if b then 1 else 0))) := fun A E s x y hA hD e f => by
  cases e; cases f; (with_reducible refine PyProof.Rows.sub_bool ?_); exact ⟨.tok, ⟨_, by cases a <;> cases b <;> rfl⟩⟩
theorem Bin.mulI {a b : Int} (h : IntMulOk a b) : Bin w .Mult D (.int a) (.int b) (.int (a * b)) := fun A E s x y hA hD ⟨t, e⟩ ⟨u, f⟩ => by
  subst e f; (with_reducible refine PyProof.Rows.mul_int ?_ h); exact ⟨.tok, ⟨_, rfl⟩⟩
theorem Bin.divI {a b : Int} (hb : b ≠ 0) (h : Builtin.divisionGoesByPylong a b = false) : Bin w .FloorDiv D (.int a) (.int b) (.int (a.fdiv b)) := fun A E s x y hA hD ⟨t, e⟩ ⟨u, f⟩ => by
  subst e f; (with_reducible refine PyProof.Rows.floordiv_int hb ?_ (.inl h)); exact ⟨.tok, ⟨_, rfl⟩⟩
theorem Bin.modI {a b : Int} (hb : b ≠ 0) : Bin w .Mod D (.int a) (.int b) (.int (a.fmod b)) := fun A E s x y hA hD ⟨t, e⟩ ⟨u, f⟩ => by
  subst e f; (with_reducible refine PyProof.Rows.mod_int' hb ?_); exact ⟨.tok, ⟨_, rfl⟩⟩
theorem Bin.powI {a n : Int} (hn : 0 ≤ n) (hsz : (Builtin.Int.intBits a : Int) * n ≤ 2 ^ 27) : Bin w .Pow D (.int a) (.int n) (.int (a ^ n.toNat)) := fun A E s x y hA hD ⟨t, e⟩ ⟨u, f⟩ => by
  subst e f; (with_reducible refine PyProof.Rows.pow_int hn hsz ?_); exact ⟨.tok, ⟨_, rfl⟩⟩
theorem Bin.addS {a b : Str} (hsz : a.length + b.length ≤ sizeLine) : Bin w .Add D (.str a) (.str b) (.str (a ++ b)) := fun A E s x y hA hD ⟨t, e⟩ ⟨u, f⟩ => by
  subst e f; (with_reducible refine SBL.add (fun t' k' _ => ?_) hsz); exact ⟨.tok, ⟨_, rfl⟩⟩
theorem Bin.mulS {a : Str} {n : Int} (h : MulOk a n) : Bin w .Mult D (.str a) (.int n) (.str (Txt.mul a n)) := fun A E s x y hA hD ⟨t, e⟩ ⟨u, f⟩ => by
  subst e f; (with_reducible refine SB.mul h (fun t' k' => ?_)); exact ⟨.tok, ⟨_, rfl⟩⟩

theorem Ev.neg {e : Expr} {pos : Pos} {a : Int} (h : Ev w k env D ρ σ e (.int a) σ₁) : Ev w k env D ρ σ (.UnaryOp .USub e pos) (.int (-a)) σ₁ := by
  intro A E s B hA S
  refine wpAny_UnaryOp (seq h hA S fun x s₁ p₁ ⟨t, e⟩ S₁ => ?_)
  subst e
  (with_reducible refine PyProof.Rows.neg_int ?_); exact ⟨p₁.trans .tok, ⟨_, rfl⟩, S₁.store⟩

/-! comparisons -/
noncomputable def Cmp (w : World) (op : CmpOp) (D : Dm) (a b : Val) (c : Bool) : Prop :=
  ∀ (A : Around) (E : Value → Shared → Prop) (s : Shared) (x y : Value), AOk 0 A → Rep D s.heap a x → Rep D s.heap b y →
    wpAny (model PGm w) A (compareOp op x y) (fun u s' => Step .none s s' ∧ u = .bool c) E s
theorem Ev.cmp {l r : Expr} {op : CmpOp} {pos : Pos} {a b : Val} {c : Bool} (hl : Ev w k env D ρ σ l a σ₁) (hr : Ev w k env D ρ σ₁ r b σ₂) (ho : Cmp w op D a b c) (hm : behindInMarks op r = false) :
    Ev w k env D ρ σ (.Compare l [op] [r] pos) (.bool c) σ₂ := by
  intro A E s B hA S
  refine wpAny_Compare1 (seq hl hA S fun x s₁ p₁ r₁ S₁ => seq hr hA S₁ fun y s₂ p₂ r₂ S₂ => ?_) hm
  exact wpAny_mono (ho A E s₂ x y (hA.mono (Nat.zero_le _)) (r₁.kept p₂.heap) r₂) (fun u s₃ ⟨p₃, e⟩ => ⟨p₁.trans (p₂.trans p₃.of_none), e, (S₂.store).kept p₃.heap.all⟩) fun _ _ e => e
theorem Tst.cmp {l r : Expr} {op : CmpOp} {pos : Pos} {a b : Val} {c : Bool} (hl : Ev w k env D ρ σ l a σ₁) (hr : Ev w k env D ρ σ₁ r b σ₂) (ho : Cmp w op D a b c) (hm : behindInMarks op r = false) :
    Tst w k env D ρ σ (.Compare l [op] [r] pos) c σ₂ := by
  intro A E s B hA S
  refine wpAny_isTrue_Compare1 (seq hl hA S fun x s₁ p₁ r₁ S₁ => seq hr hA S₁ fun y s₂ p₂ r₂ S₂ => ?_) hm
  refine wpAny_mono (ho A E s₂ x y (hA.mono (Nat.zero_le _)) (r₁.kept p₂.heap) r₂) (fun u s₃ ⟨p₃, e⟩ => ?_) fun _ _ e => e
  subst e
  exact wpAny_truthy_bool ⟨rfl, p₁.trans (p₂.trans p₃.of_none), (S₂.store).kept p₃.heap.all⟩
theorem Cmp.gt {a b : Int} : Cmp w .Gt D (.int a) (.int b) (decide (b < a)) := fun A E s x y hA ⟨t, e⟩ ⟨u, f⟩ => by
  subst e f; (with_reducible refine PyProof.Rows.gt_int ?_); exact ⟨.refl, rfl⟩
theorem Cmp.lt {a b : Int} : Cmp w .Lt D (.int a) (.int b) (decide (a < b)) := fun A E s x y hA ⟨t, e⟩ ⟨u, f⟩ => by
  subst e f; (with_reducible refine PyProof.Rows.lt_int ?_); exact ⟨.refl, rfl⟩
theorem Cmp.ge {a b : Int} : Cmp w .GtE D (.int a) (.int b) (decide (b ≤ a)) := fun A E s x y hA ⟨t, e⟩ ⟨u, f⟩ => by
  subst e f; (with_reducible refine PyProof.Rows.ge_int ?_); exact ⟨.refl, rfl⟩
theorem Cmp.le {a b : Int} : Cmp w .LtE D (.int a) (.int b) (decide (a ≤ b)) := fun A E s x y hA ⟨t, e⟩ ⟨u, f⟩ => by
  subst e f; (with_reducible refine PyProof.Rows.le_int ?_); exact ⟨.refl, rfl⟩
theorem Cmp.eqI {a b : Int} : Cmp w .Eq D (.int a) (.int b) (decide (a = b)) := fun A E s x y hA ⟨t, e⟩ ⟨u, f⟩ => by
  subst e f; (with_reducible refine PyProof.Rows.eq_int ?_); exact ⟨.refl, by congr 1⟩
theorem Cmp.neI {a b : Int} : Cmp w .NotEq D (.int a) (.int b) (!decide (a = b)) := fun A E s x y hA ⟨t, e⟩ ⟨u, f⟩ => by
  subst e f; (with_reducible refine PyProof.Rows.ne_int ?_); exact ⟨.refl, by congr 1⟩
theorem Cmp.eqS {a b : Str} : Cmp w .Eq D (.str a) (.str b) (decide (a = b)) := fun A E s x y hA ⟨t, e⟩ ⟨u, f⟩ => by
  subst e f; (with_reducible refine PyProof.Rows.eq_str ?_); exact ⟨.refl, by congr 1⟩
theorem Cmp.neS {a b : Str} : Cmp w .NotEq D (.str a) (.str b) (!decide (a = b)) := fun A E s x y hA ⟨t, e⟩ ⟨u, f⟩ => by
  subst e f; (with_reducible refine PyProof.Rows.ne_str ?_); exact ⟨.refl, by congr 1⟩

noncomputable def Val.isNone : Val → Bool
  | .none => true
  | _ => false
theorem Rep.isNone {h : Heap} {v : Val} {u : Value} (r : Rep D h v u) : (u == .none) = v.isNone := by
  cases v with
  | none => cases r; rfl
  | bool b => cases r; rfl
  | int i => obtain ⟨t, e⟩ := r; subst e; rfl
  | str i => obtain ⟨t, e⟩ := r; subst e; rfl
  | tup xs => obtain ⟨a, us, e, _⟩ := r; subst e; rfl
  | list xs => obtain ⟨a, us, e, _⟩ := r; subst e; rfl
  | cell => obtain ⟨c, _, e⟩ := r; subst e; rfl
theorem Cmp.isN {v : Val} : Cmp w .Is D v .none v.isNone := fun A E s x y hA r f => by
  cases f; (with_reducible refine PySem.is_none ?_); exact ⟨.refl, by rw [r.isNone]⟩
theorem Cmp.isNotN {v : Val} : Cmp w .IsNot D v .none (!v.isNone) := fun A E s x y hA r f => by
  cases f; (with_reducible refine PySem.isNot_none ?_); exact ⟨.refl, by rw [r.isNone]⟩

/-! tests -/
noncomputable def Alls (w : World) (k : Nat) (env : Env) (D : Dm) (ρ : Rho) (σ : List Val) (op : BoolOp) (es : List Expr) (b : Bool) (σ' : List Val) : Prop :=
  ∀ (A : Around) (E : Value → Shared → Prop) (s : Shared) (B : Heap), AOk k A → St w B env D ρ σ s.heap →
    wpAny (model PGm w) A (allTrue op es env) (fun c s' => c = b ∧ Step D.m s s' ∧ Store D σ' s'.heap) E s
theorem Alls.andN : Alls w k env D ρ σ .And [] true σ := fun A E s B hA S => wpAny_allTrue_And_nil ⟨rfl, .refl, S.store⟩
theorem Alls.orN : Alls w k env D ρ σ .Or [] false σ := fun A E s B hA S => wpAny_allTrue_Or_nil ⟨rfl, .refl, S.store⟩
theorem Alls.andF {e : Expr} {es : List Expr} (h : Tst w k env D ρ σ e false σ₁) : Alls w k env D ρ σ .And (e :: es) false σ₁ := fun A E s B hA S =>
  wpAny_allTrue_And_cons (seqT h hA S fun s₁ p S₁ => ⟨rfl, p, S₁.store⟩)
theorem Alls.andT {e : Expr} {es : List Expr} {b : Bool} (h : Tst w k env D ρ σ e true σ₁) (r : Alls w k env D ρ σ₁ .And es b σ₂) : Alls w k env D ρ σ .And (e :: es) b σ₂ := fun A E s B hA S =>
  wpAny_allTrue_And_cons (seqT h hA S fun s₁ p S₁ => wpAny_mono (r A E s₁ B hA S₁) (fun c s₂ ⟨e, q, t⟩ => ⟨e, p.trans q, t⟩) fun _ _ e => e)
theorem Alls.orT {e : Expr} {es : List Expr} (h : Tst w k env D ρ σ e true σ₁) : Alls w k env D ρ σ .Or (e :: es) true σ₁ := fun A E s B hA S =>
  wpAny_allTrue_Or_cons (seqT h hA S fun s₁ p S₁ => ⟨rfl, p, S₁.store⟩)
theorem Alls.orF {e : Expr} {es : List Expr} {b : Bool} (h : Tst w k env D ρ σ e false σ₁) (r : Alls w k env D ρ σ₁ .Or es b σ₂) : Alls w k env D ρ σ .Or (e :: es) b σ₂ := fun A E s B hA S =>
  wpAny_allTrue_Or_cons (seqT h hA S fun s₁ p S₁ => wpAny_mono (r A E s₁ B hA S₁) (fun c s₂ ⟨e, q, t⟩ => ⟨e, p.trans q, t⟩) fun _ _ e => e)
theorem Tst.bop {op : BoolOp} {es : List Expr} {pos : Pos} {b : Bool} (h : Alls w k env D ρ σ op es b σ₁) : Tst w k env D ρ σ (.BoolOp op es pos) b σ₁ := fun A E s B hA S =>
  wpAny_isTrue_BoolOp (h A E s B hA S)

/-! conditional expression -/
theorem Ev.ifT {t a b : Expr} {pos : Pos} {v : Val} (ht : Tst w k env D ρ σ t true σ₁) (h : Ev w k env D ρ σ₁ a v σ₂) : Ev w k env D ρ σ (.IfExp t a b pos) v σ₂ := fun A E s B hA S =>
  wpAny_IfExp (seqT ht hA S fun s₁ p S₁ => by
    show wpAny _ _ _ _ _ _
    exact seq h hA S₁ fun u s₂ q r S₂ => ⟨p.trans q, r, S₂.store⟩)
theorem Ev.ifF {t a b : Expr} {pos : Pos} {v : Val} (ht : Tst w k env D ρ σ t false σ₁) (h : Ev w k env D ρ σ₁ b v σ₂) : Ev w k env D ρ σ (.IfExp t a b pos) v σ₂ := fun A E s B hA S =>
  wpAny_IfExp (seqT ht hA S fun s₁ p S₁ => by
    show wpAny _ _ _ _ _ _
    exact seq h hA S₁ fun u s₂ q r S₂ => ⟨p.trans q, r, S₂.store⟩)
noncomputable def Evs (w : World) (k : Nat) (env : Env) (D : Dm) (ρ : Rho) (σ : List Val) (pos : Pos) (es : List Expr) (vs : List Val) (σ' : List Val) : Prop :=
  ∀ (A : Around) (E : Value → Shared → Prop) (s : Shared) (B : Heap), AOk k A → St w B env D ρ σ s.heap →
    wpAny (model PGm w) A (spliced (backTo pos (starEach es env))) (fun us s' => Step D.m s s' ∧ RepL D s'.heap vs us ∧ Store D σ' s'.heap) E s
theorem Evs.nil {pos : Pos} : Evs w k env D ρ σ pos [] [] σ := fun A E s B hA S => spliced_nil ⟨.refl, rfl, S.store⟩
theorem Evs.cons {pos : Pos} {e : Expr} {es : List Expr} {v : Val} {vs : List Val} (h : Ev w k env D ρ σ e v σ₁) (hs : Evs w k env D ρ σ₁ pos es vs σ₂)
    (he : starEach (e :: es) env = (false, eval e env) :: starEach es env) : Evs w k env D ρ σ pos (e :: es) (v :: vs) σ₂ := by
  intro A E s B hA S
  rw [he]
  refine spliced_cons (seq h hA S fun u s₁ p r S₁ => ?_)
  exact wpAny_mono (hs A E s₁ B hA S₁) (fun us s₂ ⟨q, rs, st⟩ => ⟨p.trans q, .cons (r.kept q.heap) rs, st⟩) fun _ _ e => e

/-! displays -/
theorem Ev.tup {es : List Expr} {kd : Nat} {pos : Pos} {vs : List Val} (h : Evs w k env D ρ σ pos es vs σ₁) (hz : vs.length ≤ 1000) : Ev w k env D ρ σ (.Tuple es kd pos) (.tup vs) σ₁ := by
  intro A E s B hA S
  refine wpAny_Tuple_spliced (wpAny_mono (h A E s B hA S) (fun us s₁ ⟨p, r, st⟩ => ⟨by rw [r.length, sizeLine_eq]; lia, p.trans ?_, ?_, st.kept ?_⟩) fun _ _ e => e)
  · exact Step.push (n := s₁.toks)
  · exact ⟨_, us, rfl, st.off (fresh_none (Nat.le_refl _)), ⟨_, Heap.get?_push_size _ rfl, rfl, 0, rfl⟩, r.kept (.of_all fun b o e => Heap.get?_push_of_some _ e)⟩
  · exact fun b o e => Heap.get?_push_of_some _ e
theorem Ev.list {es : List Expr} {pos : Pos} {vs : List Val} (h : Evs w k env D ρ σ pos es vs σ₁) (hz : vs.length ≤ 1000) : Ev w k env D ρ σ (.List es pos) (.list vs) σ₁ := by
  intro A E s B hA S
  refine wpAny_List_spliced (wpAny_mono (h A E s B hA S) (fun us s₁ ⟨p, r, st⟩ => ⟨by rw [r.length, sizeLine_eq]; omega, p.trans ?_, ?_, st.kept ?_⟩) fun _ _ e => e)
  · exact Step.push (n := s₁.toks)
  · exact ⟨_, us, rfl, st.off (fresh_none (Nat.le_refl _)), ⟨_, Heap.get?_push_size _ rfl, rfl, 0, rfl⟩, r.kept (.of_all fun b o e => Heap.get?_push_of_some _ e)⟩
  · exact fun b o e => Heap.get?_push_of_some _ e
end
end

section
open PySem PySem.Spec PySem.Calls PySem.W PyProof.Rows
noncomputable def IsFn (w : World) (x : Str) (f : Addr) : Prop := nsIn (hd.heap_39 w.params) mainGlobals x = some (some (.ref f)) ∧ keepIn (hd.heap_39 w.params) (.ref f) = true
noncomputable def IsBi (w : World) (x : Str) (v : Value) : Prop := nsIn (hd.heap_39 w.params) mainGlobals x = some none ∧ bootBuiltins x = some v ∧ x ≠ ("__name__" : Str)

section
variable {w : World} {k : Nat} {env : Env} {D : Dm} {ρ : Rho} {σ σ₁ σ₂ σ₃ : List Val}

theorem St.bases {B h : Heap} (S : St w B env D ρ σ h) : Base w D h := by
  obtain ⟨m, F⟩ := S.fr
  exact ⟨B, S.ground, F.keep, S.newD, Nat.le_trans F.above (Nat.le_of_lt F.ns.lt)⟩

theorem name_fn {x : Str} {pos : Pos} {f : Addr} {B : Heap} {A : Around} {E : Value → Shared → Prop} {s : Shared} {Q : Value → Shared → Prop} (S : St w B env D ρ σ s.heap) (hx : env.kindOf x = some .globalImplicit) (hf : IsFn w x f)
    (hd : (x == ("__debug__" : Str)) = false) (h : Q (.ref f) s) : wpAny (model PGm w) A (eval (.Name x pos) env) Q E s := by
  obtain ⟨m, F⟩ := S.fr
  obtain ⟨X, mean, mg, mb, T⟩ := S.ground
  exact nameG_K F X (topRead_of T) hf.1 h S.frame.globals S.frame.kind hx hd
theorem name_bi {x : Str} {pos : Pos} {v : Value} {B : Heap} {A : Around} {E : Value → Shared → Prop} {s : Shared} {Q : Value → Shared → Prop} (S : St w B env D ρ σ s.heap) (hx : env.kindOf x = some .globalImplicit) (hf : IsBi w x v)
    (hd : (x == ("__debug__" : Str)) = false) (h : Q v s) : wpAny (model PGm w) A (eval (.Name x pos) env) Q E s := by
  obtain ⟨m, F⟩ := S.fr
  obtain ⟨X, mean, mg, mb, T⟩ := S.ground
  refine Name_function_global S.frame.kind hx (loadGlobal_builtin (env := env) (mg := mg) (mb := mb) ?_ (mg_none_of X T.g hf.1) ?_ ((T.builtins x hf.2.2).trans hf.2.1) h) hd
  · rw [S.frame.globals]; exact T.g.keeps F.keep
  · rw [S.frame.builtins]; exact T.b.keeps F.keep

/-- a call of one of the text's defs -/
theorem Ev.call {j : Nat} {f : Addr} {x : Str} {np pos : Pos} {e : Expr} {es : List Expr} {vs : List Val} {r : Val} (hf : IsFn w x f) (ha : Evs w k env D ρ σ pos (e :: es) vs σ₁) (hr : Fn w j f D vs σ₁ r σ₂) (hj : j ≤ k)
    (hx : env.kindOf x = some .globalImplicit) (he : starEach (e :: es) env = (false, eval e env) :: starEach es env)
    (hplain : (backTo pos (starEach es env)).any (·.1) = false)
    (hd : (x == ("__debug__" : Str)) = false) : Ev w k env D ρ σ (.Call (.Name x np) (e :: es) [] pos) r σ₂ := by
  intro A E s B hA S
  refine Call_ (name_fn S hx hf hd ?_) (by with_unfolding_all rfl)
  obtain ⟨m, F⟩ := S.fr
  obtain ⟨X, _⟩ := S.ground
  refine callWith_K X hf.2 (wpAny_mono (ha A E s B hA S) (fun us s₁ ⟨p, rs, st⟩ => ?_) fun _ _ e => e) he hplain
  have S₁ := S.step p st
  refine ⟨X.keeps fun b o e => p.heap b o (fun q => by rw [S.newD b q] at e; cases e) (F.keep b o e), ?_⟩
  exact wpAny_mono (hr A E s₁ us (hA.mono hj) S₁.bases rs st) (fun u s₂ ⟨q, r, st'⟩ => ⟨p.trans q, r, st'⟩) fun _ _ e => e

/-- built-ins -/
noncomputable def Bif (w : World) (f : Value) (vs : List Val) (D : Dm) (σ : List Val) (r : Val) : Prop :=
  ∀ (A : Around) (E : Value → Shared → Prop) (s : Shared) (us : List Value), AOk 0 A → RepL D s.heap vs us → Store D σ s.heap →
    wpAny (model PGm w) A (call f us) (fun v s' => Step .none s s' ∧ Rep D s'.heap r v) E s
theorem Ev.bif {id : String} {x : Str} {np pos : Pos} {e : Expr} {es : List Expr} {vs : List Val} {r : Val} (hf : IsBi w x (.builtin id)) (ha : Evs w k env D ρ σ pos (e :: es) vs σ₁) (hr : Bif w (.builtin id) vs D σ₁ r)
    (hx : env.kindOf x = some .globalImplicit) (he : starEach (e :: es) env = (false, eval e env) :: starEach es env)
    (hplain : (backTo pos (starEach es env)).any (·.1) = false)
    (hd : (x == ("__debug__" : Str)) = false) : Ev w k env D ρ σ (.Call (.Name x np) (e :: es) [] pos) r σ₁ := by
  intro A E s B hA S
  refine Call_ (name_bi S hx hf hd ?_) (by with_unfolding_all rfl)
  refine PyProof.Rows.callWith_builtin1 (wpAny_mono (ha A E s B hA S) (fun us s₁ ⟨p, rs, st⟩ => ?_) fun _ _ e => e) he hplain
  exact wpAny_mono (hr A E s₁ us (hA.mono (Nat.zero_le _)) rs st) (fun u s₂ ⟨q, r⟩ => ⟨p.trans q.of_none, r, st.kept q.heap.all⟩) fun _ _ e => e
theorem Ev.bty {T : String} {x : Str} {np pos : Pos} {e : Expr} {es : List Expr} {vs : List Val} {r : Val} (hf : IsBi w x (.type T)) (ha : Evs w k env D ρ σ pos (e :: es) vs σ₁) (hr : Bif w (.type T) vs D σ₁ r)
    (hx : env.kindOf x = some .globalImplicit) (he : starEach (e :: es) env = (false, eval e env) :: starEach es env)
    (hplain : (backTo pos (starEach es env)).any (·.1) = false)
    (hd : (x == ("__debug__" : Str)) = false) : Ev w k env D ρ σ (.Call (.Name x np) (e :: es) [] pos) r σ₁ := by
  intro A E s B hA S
  refine Call_ (name_bi S hx hf hd ?_) (by with_unfolding_all rfl)
  refine PyProof.Rows.callWith_type1 (wpAny_mono (ha A E s B hA S) (fun us s₁ ⟨p, rs, st⟩ => ?_) fun _ _ e => e) he hplain
  exact wpAny_mono (hr A E s₁ us (hA.mono (Nat.zero_le _)) rs st) (fun u s₂ ⟨q, r⟩ => ⟨p.trans q.of_none, r, st.kept q.heap.all⟩) fun _ _ e => e

theorem Bif.abs {a : Int} : Bif w (.builtin "abs") [.int a] D σ (.int (if a < 0 then -a else a)) := by
  rintro A E s us hA ⟨u, r, rfl, ⟨t, rfl⟩, hr⟩ -
  cases hr
  with_reducible refine call_abs_int (fun u tk => ?_)
  exact ⟨.tok, ⟨_, rfl⟩⟩
theorem Bif.max2 {a b : Int} : Bif w (.builtin "max") [.int a, .int b] D σ (.int (if b > a then b else a)) := by
  rintro A E s us hA ⟨u, r, rfl, ⟨t, rfl⟩, ⟨u', r', rfl, ⟨t', rfl⟩, hr⟩⟩ -
  cases hr
  have hh : A.handled = .none := hA.1
  with_reducible refine max_two_ints hh (fun h' tk hk => ?_)
  refine ⟨.of_all hk, ?_⟩
  by_cases c : b > a
  · simp only [if_pos c]; exact ⟨_, rfl⟩
  · simp only [if_neg c]; exact ⟨_, rfl⟩
theorem RepL.ints {h : Heap} : ∀ {ns : List Int} {us : List Value}, RepL D h (ns.map .int) us → IntsAre us ns
  | [], _, r => by cases r; exact .nil
  | n :: ns, _, ⟨u, r, e, ⟨t, e'⟩, h2⟩ => by subst e e'; exact .cons n t h2.ints
theorem RepL.strs {h : Heap} : ∀ {ns : List Str} {us : List Value}, RepL D h (ns.map .str) us → StrsAre us ns
  | [], _, r => by cases r; exact .nil
  | n :: ns, _, ⟨u, r, e, ⟨t, e'⟩, h2⟩ => by subst e e'; exact .cons n t h2.strs
theorem Bif.maxL {ns : List Int} {M : Int} (hM : M ∈ ns) (hle : ∀ a ∈ ns, a ≤ M) : Bif w (.builtin "max") [.list (ns.map .int)] D σ (.int M) := by
  rintro A E s us hA ⟨u, r, rfl, ⟨a, vs, rfl, _, hl, hr'⟩, hr⟩ -
  cases hr
  have hi := hr'.ints
  have hne : 0 < ns.length := List.length_pos_of_mem hM
  obtain ⟨xs, e⟩ := hi.allInts.items
  have hns : ns = xs.toList.map (·.1) := by
    rw [← hi.numsOf, ← nums_intItems, ← e]
  have hsz : 0 < xs.size := by
    have h3 := hne; rw [hns, List.length_map, Array.length_toList] at h3; exact h3
  rw [e] at hl
  have hh : A.handled = .none := hA.1
  with_reducible refine max_intList hh hl hsz (fun v h' tk hv hk => ?_)
  obtain ⟨t, rfl⟩ := intItems_at hv
  obtain ⟨h1, h2⟩ := argBest_gt (numAt xs) (xs.size - 1)
  refine ⟨.of_all hk, t, ?_⟩
  congr 1
  have m1 : numAt xs (argBest (fun i j => decide (numAt xs i > numAt xs j)) (xs.size - 1)) ∈ ns := by
    rw [hns, numAt_eq]; exact getD_mem (by rw [List.length_map, Array.length_toList]; omega)
  have m2 : ∀ b ∈ ns, b ≤ numAt xs (argBest (fun i j => decide (numAt xs i > numAt xs j)) (xs.size - 1)) := fun b hb => by
    rw [hns] at hb
    obtain ⟨j, hj, rfl⟩ := mem_getD hb
    rw [List.length_map, Array.length_toList] at hj
    rw [← numAt_eq]; exact h2 j (by lia)
  have q1 := hle _ m1
  have q2 := m2 _ hM
  lia
theorem Bif.divmod {a b : Int} (hb : b ≠ 0) (hp : Builtin.divisionGoesByPylong a b = false) : Bif w (.builtin "divmod") [.int a, .int b] D σ (.tup [.int (a.fdiv b), .int (a.fmod b)]) := by
  rintro A E s us hA ⟨u, r, rfl, ⟨t, rfl⟩, ⟨u', r', rfl, ⟨t', rfl⟩, hr⟩⟩ st
  cases hr
  with_reducible refine divmod_int hb ?_ (.inl hp)
  refine ⟨.push, _, _, rfl, st.off (fresh_none (Nat.le_refl _)), ⟨_, Heap.get?_push_size _ rfl, rfl, 0, rfl⟩, ?_⟩
  exact .cons ⟨_, rfl⟩ (.single ⟨_, rfl⟩)
theorem Bif.str_int {a : Int} (h : a.natAbs.log2 < 1920) : Bif w (.type "str") [.int a] D σ (.str (Str.ofString (toString a))) := by
  rintro A E s us hA ⟨u, r, rfl, ⟨t, rfl⟩, hr⟩ -
  cases hr
  with_reducible refine P.str_of_int h ?_
  exact ⟨.tok, ⟨_, rfl⟩⟩
theorem Bif.int_int {a : Int} : Bif w (.type "int") [.int a] D σ (.int a) := by
  rintro A E s us hA ⟨u, r, rfl, ⟨t, rfl⟩, hr⟩ -
  cases hr
  with_reducible refine call_int_int ?_
  exact ⟨.refl, ⟨_, rfl⟩⟩
theorem Bif.len_str {a : Str} (h : a.length < 2 ^ 62) : Bif w (.builtin "len") [.str a] D σ (.int (a.length : Int)) := by
  rintro A E s us hA ⟨u, r, rfl, ⟨t, rfl⟩, hr⟩ -
  cases hr
  with_reducible refine PyProof.Rows.len_str (by lia) ?_
  exact ⟨.tok, ⟨_, rfl⟩⟩
theorem Bif.len_list {xs : List Val} (h : xs.length < 2 ^ 62) : Bif w (.builtin "len") [.list xs] D σ (.int (xs.length : Int)) := by
  rintro A E s us hA ⟨u, r, rfl, ⟨a, vs, rfl, _, hl, hr'⟩, hr⟩ -
  cases hr
  have hz : vs.toArray.size = xs.length := by rw [List.size_toArray]; exact hr'.length
  with_reducible refine PyProof.Rows.len_list hl (by lia) ?_
  exact ⟨.tok, ⟨_, by rw [hz]⟩⟩
theorem Bif.len_mut (h : σ.length < 2 ^ 62) : Bif w (.builtin "len") [.cell] D σ (.int (σ.length : Int)) := by
  rintro A E s us hA ⟨u, r, rfl, ⟨c, q, rfl⟩, hr⟩ st
  cases hr
  obtain ⟨vs, n, hl, hr'⟩ := st.cell q
  have hz : vs.size = σ.length := by rw [← Array.length_toList]; exact hr'.length
  have hl' : s.heap.IsList c vs := ⟨_, hl, rfl, n, rfl⟩
  with_reducible refine PyProof.Rows.len_list hl' (by lia) ?_
  exact ⟨.tok, ⟨_, by rw [hz]⟩⟩

/-! items -/
theorem Ev.itemT {e i : Expr} {pos : Pos} {xs : List Val} {n : Int} {v : Val} (he : Ev w k env D ρ σ e (.tup xs) σ₁) (hi : Ev w k env D ρ σ₁ i (.int n) σ₂) (h0 : 0 ≤ n) (hx : xs[n.toNat]? = some v) (hz : xs.length < 2 ^ 62)
    (hs : ∀ a t, subscripted i false (.ref a) (.int n t) = operate [.ref a, .int n t] (getItem (.ref a) (.int n t))) :
    Ev w k env D ρ σ (.Subscript e i pos) v σ₂ := by
  intro A E s B hA S
  refine Subscript_ (seq he hA S fun u s₁ p₁ r₁ S₁ => seq hi hA S₁ fun u' s₂ p₂ ⟨t, e'⟩ S₂ => ?_)
  subst e'
  obtain ⟨a, us, rfl, hn, hT, hr⟩ := r₁.kept p₂.heap
  obtain ⟨u, hu, ru⟩ := hr.get hx
  have hlt : n.toNat < us.length := by
    rcases Nat.lt_or_ge n.toNat us.length with h | h
    · exact h
    · rw [List.getElem?_eq_none h] at hu; cases hu
  have hl := hr.length
  have hq : seqIndex? n us.length = some n.toNat := by
    have h1 : ¬ n < 0 := by lia
    have h2 : (decide (0 ≤ n) && decide (n < (us.length : Int))) = true := by
      rw [Bool.and_eq_true]; exact ⟨decide_eq_true h0, decide_eq_true (by lia)⟩
    simp only [seqIndex?, h1, if_false]
    exact if_pos h2
  refine item_tupleT (u := t) hT (by lia) (by lia) hq hu ⟨p₁.trans p₂, ru, S₂.store⟩ (hs a t)
theorem Ev.itemL {e i : Expr} {pos : Pos} {xs : List Val} {n : Int} {v : Val} (he : Ev w k env D ρ σ e (.list xs) σ₁) (hi : Ev w k env D ρ σ₁ i (.int n) σ₂) (h0 : 0 ≤ n) (hx : xs[n.toNat]? = some v) (hz : xs.length < 2 ^ 62)
    (hs : ∀ a t, subscripted i false (.ref a) (.int n t) = operate [.ref a, .int n t] (getItem (.ref a) (.int n t))) :
    Ev w k env D ρ σ (.Subscript e i pos) v σ₂ := by
  intro A E s B hA S
  refine Subscript_ (seq he hA S fun u s₁ p₁ r₁ S₁ => seq hi hA S₁ fun u' s₂ p₂ ⟨t, e'⟩ S₂ => ?_)
  subst e'
  obtain ⟨a, us, rfl, hn, hT, hr⟩ := r₁.kept p₂.heap
  obtain ⟨u, hu, ru⟩ := hr.get hx
  have hlt : n.toNat < us.length := by
    rcases Nat.lt_or_ge n.toNat us.length with h | h
    · exact h
    · rw [List.getElem?_eq_none h] at hu; cases hu
  have hl := hr.length
  exact tail_any hT.typeIs slot_list_getitem.lookup (wpAny_getItem_list hT h0 (by omega) (by simpa using hu) ⟨p₁.trans p₂, ru, S₂.store⟩) (hs a t)
/-- the last item: xs[-1] -/
theorem Ev.itemN {e i : Expr} {pos : Pos} {xs : List Val} {n : Int} {v : Val} (he : Ev w k env D ρ σ e (.list xs) σ₁) (hi : Ev w k env D ρ σ₁ i (.int n) σ₂) (h0 : n < 0) (hlo : 0 ≤ n + xs.length) (hx : xs[(n + xs.length).toNat]? = some v) (hz : xs.length < 2 ^ 62)
    (hs : ∀ a t, subscripted i false (.ref a) (.int n t) = operate [.ref a, .int n t] (getItem (.ref a) (.int n t))) :
    Ev w k env D ρ σ (.Subscript e i pos) v σ₂ := by
  intro A E s B hA S
  refine Subscript_ (seq he hA S fun u s₁ p₁ r₁ S₁ => seq hi hA S₁ fun u' s₂ p₂ ⟨t, e'⟩ S₂ => ?_)
  subst e'
  obtain ⟨a, us, rfl, hn, hT, hr⟩ := r₁.kept p₂.heap
  obtain ⟨u, hu, ru⟩ := hr.get hx
  have hl := hr.length
  refine tail_any hT.typeIs slot_list_getitem.lookup (wpAny_getItem_list_neg hT h0 ?_ ?_ ?_ ⟨p₁.trans p₂, ru, S₂.store⟩) (hs a t)
  · rw [List.size_toArray, hl]; lia
  · lia
  · rw [List.size_toArray, hl]; simpa using hu
/-- an item of the mutable list -/
theorem Ev.itemM {e i : Expr} {pos : Pos} {n : Int} {v : Val} (he : Ev w k env D ρ σ e .cell σ₁) (hi : Ev w k env D ρ σ₁ i (.int n) σ₂) (h0 : 0 ≤ n) (hx : σ₂[n.toNat]? = some v) (hz : σ₂.length < 2 ^ 62)
    (hs : ∀ a t, subscripted i false (.ref a) (.int n t) = operate [.ref a, .int n t] (getItem (.ref a) (.int n t))) :
    Ev w k env D ρ σ (.Subscript e i pos) v σ₂ := by
  intro A E s B hA S
  refine Subscript_ (seq he hA S fun u s₁ p₁ r₁ S₁ => seq hi hA S₁ fun u' s₂ p₂ ⟨t, e'⟩ S₂ => ?_)
  subst e'
  obtain ⟨c, hc, rfl⟩ := r₁
  obtain ⟨us, m, hg, hr⟩ := S₂.store.cell hc
  obtain ⟨u, hu, ru⟩ := hr.get hx
  have hlt : n.toNat < us.toList.length := by
    rcases Nat.lt_or_ge n.toNat us.toList.length with h | h
    · exact h
    · rw [List.getElem?_eq_none h] at hu; cases hu
  have hl := hr.length
  have hT : s₂.heap.IsList c us := ⟨_, hg, rfl, m, rfl⟩
  exact tail_any hT.typeIs slot_list_getitem.lookup (wpAny_getItem_list hT h0 (by lia) (by simpa using hu) ⟨p₁.trans p₂, ru, S₂.store⟩) (hs c t)
theorem Ev.itemS {e i : Expr} {pos : Pos} {x : Str} {n : Int} (he : Ev w k env D ρ σ e (.str x) σ₁) (hi : Ev w k env D ρ σ₁ i (.int n) σ₂) (h0 : 0 ≤ n) (h1 : n < x.length) (hz : x.length < 2 ^ 62)
    (hs : ∀ y a t, subscripted i false (.str y a) (.int n t) = operate [.str y a, .int n t] (getItem (.str y a) (.int n t)))
    (ht : ∀ y a r, letTemporaryGo e (.str y a) r = pure ()) :
    Ev w k env D ρ σ (.Subscript e i pos) (.str (Txt.item x n)) σ₂ := by
  intro A E s B hA S
  refine Subscript_ (seq he hA S fun u s₁ p₁ ⟨t', e''⟩ S₁ => seq hi hA S₁ fun u' s₂ p₂ ⟨t, e'⟩ S₂ => ?_)
  subst e' e''
  refine item_str ?_ (by lia) h1 (fun _ => ⟨p₁.trans (p₂.trans .tok), ⟨_, rfl⟩, S₂.store⟩) (hs _ _ _) (ht _ _)
  have h1' : ¬ n < -(2 ^ 63 : Int) := by lia
  have h2' : ¬ n ≥ (2 ^ 63 : Int) := by lia
  show (!(decide (n < -(2 ^ 63 : Int)) || decide (n ≥ 2 ^ 63))) = true
  rw [decide_eq_false h1', decide_eq_false h2']; rfl

/-! slices -/
noncomputable def Part (w : World) (k : Nat) (env : Env) (D : Dm) (ρ : Rho) (σ : List Val) (e : Option Expr) (v : Option Int) (σ' : List Val) : Prop :=
  match e, v with
  | .none, .none => σ' = σ
  | some e, some i => Ev w k env D ρ σ e (.int i) σ'
  | _, _ => False
theorem part {e : Option Expr} {v : Option Int} {B : Heap} {A : Around} {E : Value → Shared → Prop} {s : Shared} {Q : Value → Shared → Prop} (h : Part w k env D ρ σ e v σ₁) (hA : AOk k A) (S : St w B env D ρ σ s.heap)
    (hq : ∀ (q : Option (Int × Tok)) s', Step D.m s s' → q.map (·.1) = v → St w B env D ρ σ₁ s'.heap → Q (partValue q) s') : wpAny (model PGm w) A (evalPart e env) Q E s := by
  cases e with
  | none =>
    cases v with
    | none => cases h; exact wpAny_evalPart_none (hq .none s .refl rfl S)
    | some i => exact h.elim
  | some e =>
    cases v with
    | none => exact h.elim
    | some i =>
      refine wpAny_evalPart_some (seq h hA S fun u s' p ⟨t, e⟩ S' => ?_)
      subst e
      exact hq (some (i, t)) s' p rfl S'
theorem Part.none : Part w k env D ρ σ .none .none σ := rfl
theorem Part.some {e : Expr} {i : Int} (h : Ev w k env D ρ σ e (.int i) σ₁) : Part w k env D ρ σ (some e) (some i) σ₁ := h
theorem post_slice {x : Str} {t : Tok} {l u : Option (Int × Tok)} {s : Shared} {Q : Value → Shared → Prop} (h : ∀ t' n, Q (.str (Txt.slice x (l.map (·.1)) (u.map (·.1))) t') { s with toks := n }) (hz : x.length ≤ sizeLine) : (sliceMade x t l u .none).post Q s := by
  have e : slicePicked x l u .none = Builtin.Str.strSliceIndices (l.map (·.1)) (u.map (·.1)) 1 x.length := rfl
  have hle := Txt.slice_le x (l.map (·.1)) (u.map (·.1))
  unfold sliceMade
  rw [e]
  unfold Txt.slice at h hle
  by_cases c : ((1 : Int) == 1 && (Builtin.Str.strSliceIndices (l.map (·.1)) (u.map (·.1)) 1 x.length).length == x.length) = true
  · rw [if_pos c] at h
    rw [if_pos (by simpa using c)]
    exact h t s.toks
  · rw [if_neg c] at h hle
    rw [if_neg (by simpa using c)]
    exact ⟨Nat.le_trans hle hz, h _ _⟩
theorem Ev.sliceS {e : Expr} {lo hi : Option Expr} {a b : Option Int} {p pos : Pos} {x : Str} (he : Ev w k env D ρ σ e (.str x) σ₁) (hl : Part w k env D ρ σ₁ lo a σ₂) (hh : Part w k env D ρ σ₂ hi b σ₃) (hz : x.length ≤ sizeLine)
    (ht : ∀ o r, letTemporaryGo e o r = pure ()) : Ev w k env D ρ σ (.Subscript e (.Slice lo hi .none p) pos) (.str (Txt.slice x a b)) σ₃ := by
  intro A E s B hA S
  refine wpAny_Subscript_str_slice (seq he hA S fun u s₁ p₁ ⟨t, e'⟩ S₁ => part hl hA S₁ fun q s₂ p₂ e₂ S₂ => part hh hA S₂ fun q' s₃ p₃ e₃ S₃ => ?_) ht
  subst e'
  refine ⟨x, t, q, q', rfl, rfl, rfl, post_slice (fun t' n => ?_) hz⟩
  rw [e₂, e₃]
  exact ⟨p₁.trans (p₂.trans (p₃.trans .push)), ⟨_, rfl⟩, S₃.store.kept fun b o e => Heap.get?_push_of_some _ e⟩
end
end

section
open PySem PySem.Spec PySem.Calls PySem.W PyProof.Rows
section
variable {w : World} {k : Nat} {env : Env} {D : Dm} {ρ : Rho} {σ σ₁ σ₂ σ₃ : List Val}

/-! methods of texts -/
theorem Ev.smeth {o : Expr} {name : Str} {id : String} {apos pos : Pos} {e : Expr} {es : List Expr} {x : Str} {vs : List Val} {r : Val}
    (slot : PySem.Slot "str" name id) (hty : typeOf (.builtin id) = pure (.type "method_descriptor")) (ho : Ev w k env D ρ σ o (.str x) σ₁) (ha : Evs w k env D ρ σ₁ pos (e :: es) vs σ₂) (hr : Bif w (.builtin id) (.str x :: vs) D σ₂ r)
    (hbase : attributeBase o name env (eval o env) = eval o env)
    (hfew : ((backTo pos (starEach (e :: es) env)).all (fun x => !x.1) && (backToKw pos (keywordEach [] env)).all (fun x => x.1.isSome)
      && decide ((e :: es).length + ([] : List Keyword).length + (if ([] : List Keyword).isEmpty then 0 else 1) < 30)) = true)
    (hline : (apos.endLine == pos.line) = true)
    (he : starEach (e :: es) env = (false, eval e env) :: starEach es env)
    (hplain : (backTo pos (starEach es env)).any (·.1) = false) :
    Ev w k env D ρ σ (.Call (.Attribute o name apos) (e :: es) [] pos) r σ₂ := by
  intro A E s B hA S
  refine wpAny_Call_method hbase hfew hline F.plainAttrs_str slot hty (seq ho hA S fun u s₁ p₁ ⟨t, e'⟩ S₁ => ?_)
  subst e'
  refine ⟨typeIs_str _ _ _, (fun a q => by cases q), ?_⟩
  refine callWith_method1 (wpAny_mono (ha A E s₁ B hA S₁) (fun us s₂ ⟨p₂, rs, st⟩ => ?_) fun _ _ e => e) he hplain
  exact wpAny_mono (hr A E s₂ (.str x t :: us) (hA.mono (Nat.zero_le _)) (.cons ⟨_, rfl⟩ rs) st) (fun u s₃ ⟨q, r⟩ => ⟨p₁.trans (p₂.trans q.of_none), r, st.kept q.heap.all⟩) fun _ _ e => e

theorem Bif.rjust {x f : Str} {i : Int} (hp : PadOk i = true) (hf : f.length = 1) : Bif w (.builtin "str.rjust") [.str x, .int i, .str f] D σ (.str (Txt.rjustF x i (f.cps.getD 0 0))) := by
  rintro A E s us hA ⟨u, r, rfl, ⟨t, rfl⟩, ⟨u', r', rfl, ⟨t', rfl⟩, ⟨u'', r'', rfl, ⟨t'', rfl⟩, hr⟩⟩⟩ -
  cases hr
  with_reducible refine rjust_fill hp hf (fun t' n => ?_)
  exact ⟨.tok, ⟨_, rfl⟩⟩
theorem Bif.rstrip {x y : Str} (hz : x.length ≤ sizeLine) : Bif w (.builtin "str.rstrip") [.str x, .str y] D σ (.str (Txt.rstripChars x y)) := by
  rintro A E s us hA ⟨u, r, rfl, ⟨t, rfl⟩, ⟨u', r', rfl, ⟨t', rfl⟩, hr⟩⟩ -
  cases hr
  with_reducible refine SCL.rstripChars (fun t' n _ => ?_) hz
  exact ⟨.tok, ⟨_, rfl⟩⟩
/-- join over the mutable list -/
theorem Bif.joinM {x : Str} {ys : List Str} (hx : x.length ≤ 64) (hz : (ys.map (·.length)).sum + ys.length * 64 ≤ 16777216) : Bif w (.builtin "str.join") [.str x, .cell] D (ys.map .str) (.str (Txt.join x ys)) := by
  rintro A E s us hA ⟨u, r, rfl, ⟨t, rfl⟩, ⟨u', r', rfl, ⟨c, q, rfl⟩, hr⟩⟩ st
  cases hr
  obtain ⟨us, n, g, hr⟩ := st.cell q
  have hl : s.heap.IsList c us := ⟨_, g, rfl, n, rfl⟩
  have hi := hr.strs
  with_reducible refine join_listC hl hi hx hz (fun t' n => ?_)
  exact ⟨.tok, ⟨_, rfl⟩⟩

/-! lists -/
theorem Bin.addL {xs ys : List Val} (hz : xs.length + ys.length ≤ 1000000) : Bin w .Add D (.list xs) (.list ys) (.list (xs ++ ys)) := by
  rintro A E s x y hA hD ⟨a, us, rfl, na, hl, hr⟩ ⟨b, vs, rfl, nb, hl', hr'⟩
  obtain ⟨⟨cls, dd, data, sl⟩, ho, hc, n, hd⟩ := hl
  obtain ⟨⟨cls2, dd2, data2, sl2⟩, ho2, hc2, n2, hd2⟩ := hl'
  simp only at hc hd hc2 hd2
  subst hc hd hc2 hd2
  have e : us.toArray ++ vs.toArray = (us ++ vs).toArray := by simp
  have z : us.toArray.size + vs.toArray.size ≤ sizeLine := by rw [List.size_toArray, List.size_toArray, hr.length, hr'.length, sizeLine_eq]; lia
  refine concat_meets ⟨_, ho, rfl⟩ ⟨_, ho2, rfl⟩ noFill_list_add seq_list_add PySem.F.slot_list_add PySem.F.entry_list_add (PySem.F.args_list_add_2 _ _) (list_addW a b us.toArray vs.toArray n n2 dd dd2 sl sl2 z) ⟨ho, ho2, ?_⟩
  rw [e]
  refine ⟨.push, _, us ++ vs, rfl, hD _ (fresh_none (Nat.le_refl _)), ⟨_, Heap.get?_push_size _ rfl, rfl, 0, rfl⟩, (hr.append hr').kept (.of_all fun b o e => Heap.get?_push_of_some _ e)⟩

theorem RepL.take {h : Heap} : ∀ {xs : List Val} {us : List Value} (n : Nat), RepL D h xs us → RepL D h (xs.take n) (us.take n)
  | _, _, 0, _ => by simp; rfl
  | [], _, n + 1, r => by cases r; simp; rfl
  | x :: xs, _, n + 1, ⟨u, r, e, h1, h2⟩ => by subst e; simpa using RepL.cons h1 (h2.take n)
/-- the first n of a list of the call's -/
theorem Ev.sliceL {e : Expr} {hi : Expr} {n : Int} {p pos : Pos} {xs : List Val} (he : Ev w k env D ρ σ e (.list xs) σ₁) (hh : Ev w k env D ρ σ₁ hi (.int n) σ₂) (h0 : 0 ≤ n) (hz : xs.length ≤ 1000000)
    (ht : ∀ o r, letTemporaryGo e o r = pure ()) : Ev w k env D ρ σ (.Subscript e (.Slice .none (some hi) .none p) pos) (.list (xs.take n.toNat)) σ₂ := by
  intro A E s B hA S
  refine wpAny_Subscript_list_slice (seq he hA S fun u s₁ p₁ r₁ S₁ => wpAny_evalPart_none (wpAny_evalPart_some (seq hh hA S₁ fun u' s₂ p₂ ⟨t, e'⟩ S₂ => ?_))) ht
  subst e'
  obtain ⟨a, us, rfl, hn, hl, hr⟩ := r₁.kept p₂.heap
  refine ⟨a, us.toArray, .none, some n, rfl, hl, ?_, .none, .int n t, ?_⟩
  · rw [List.size_toArray, hr.length, sizeLine_eq]; lia
  have k1 : ∀ b o, s₂.heap.get? b = some o → ((s₂.heap.push { cls := .type "slice", data := .fields #[.none, .int n t, .none] }).push { cls := .type "list", data := .seq (slicePick us.toArray .none (some n) .none) }).get? b = some o :=
    fun b o e => Heap.get?_push_of_some _ (Heap.get?_push_of_some _ e)
  have sz : (s₂.heap.push { cls := .type "slice", data := .fields #[.none, .int n t, .none] }).objs.size = s₂.heap.objs.size + 1 := Heap.size_push _ _
  refine ⟨p₁.trans (p₂.trans (.of_all k1)), ?_, S₂.store.kept k1⟩
  have e : (slicePick us.toArray .none (some n) .none) = (us.take n.toNat).toArray := by
    obtain ⟨j, rfl⟩ := Int.eq_ofNat_of_zero_le h0
    simpa using slicePick_upto' us.toArray j
  rw [e]
  refine ⟨_, us.take n.toNat, rfl, S₂.store.off (fresh_none (Nat.le_succ _)), ⟨{ cls := .type "list", data := .seq (us.take n.toNat).toArray }, ?_, rfl, 0, rfl⟩, ?_⟩
  · rw [← sz]; exact Heap.get?_push_size _ rfl
  · refine (hr.take n.toNat).kept (.of_all fun b o q => ?_)
    exact Heap.get?_push_of_some _ (Heap.get?_push_of_some _ q)
end
end

section
open PySem PySem.Spec PySem.Calls PySem.W PyProof.Rows
inductive Out where
  | next | brk | cont
  | ret (v : Val)
  | retNew (vs : List Val)

noncomputable def OutRep (D : Dm) (h₀ h : Heap) : Flow → Out → Prop
  | .next, .next => True
  | .brk, .brk => True
  | .cont, .cont => True
  | .ret u, .ret v => Rep D h v u
  | .ret u, .retNew vs => ∃ a us n, u = .ref a ∧ h₀.get? a = none ∧ D.off a ∧ h.get? a = some { cls := .type "list", data := .seq us n } ∧ RepL D h vs us.toList
  | _, _ => False

/-- what a statement keeps: all but the frame's own names and the mutable list -/
noncomputable def KeptS (env : Env) (D : Dm) (h h' : Heap) : Prop :=
  (∀ b o, b ≠ env.locals → D.m ≠ some b → (∀ x, env.cells.lookup x ≠ some b) → h.get? b = some o → h'.get? b = some o) ∧ ∀ b, h.get? b ≠ none → h'.get? b ≠ none
theorem KeptS.refl {env : Env} {D : Dm} {h : Heap} : KeptS env D h h := ⟨fun _ _ _ _ _ e => e, fun _ e => e⟩
theorem KeptS.trans {env : Env} {D : Dm} {h h' h'' : Heap} (a : KeptS env D h h') (b : KeptS env D h' h'') : KeptS env D h h'' :=
  ⟨fun x o p q r e => b.1 x o p q r (a.1 x o p q r e), fun x e => b.2 x (a.2 x e)⟩
theorem KeptS.of_all {env : Env} {D : Dm} {h h' : Heap} (a : ∀ b o, h.get? b = some o → h'.get? b = some o) : KeptS env D h h' :=
  ⟨fun b o _ _ _ e => a b o e, fun b e q => by
    cases g : h.get? b with
    | none => exact e g
    | some o => rw [a b o g] at q; cases q⟩

section
variable {w : World} {k : Nat} {B : Heap} {env : Env} {D : Dm} {ρ : Rho} {σ σ₁ σ₂ σ₃ : List Val}

theorem Step.keptS {s s' : Shared} (S : St w B env D ρ σ s.heap) (p : Step D.m s s') (st : Store D σ₁ s'.heap) : KeptS env D s.heap s'.heap :=
  ⟨fun b o _ n _ e => p.heap b o n e, fun b e q => by
    cases g : s.heap.get? b with
    | none => exact e g
    | some o =>
      by_cases hb : D.m = some b
      · obtain ⟨us, n, g', _⟩ := st.cell hb
        rw [g'] at q; cases q
      · rw [p.heap b o hb g] at q; cases q⟩

/-- the end of a statement -/
inductive ExPost (w : World) (B : Heap) (env : Env) (D : Dm) (Φ : Out → Rho → List Val → Prop) (s : Shared) (f : Flow) (s' : Shared) : Prop
  | mk (h' : Heap) (tk : Nat) (o : Out) (ρ' : Rho) (σ' : List Val) (e : s' = { s with heap := h', toks := tk }) (k : KeptS env D s.heap h') (r : OutRep D s.heap h' f o) (st : Store D σ' h')
    (S : o = .next ∨ o = .brk ∨ o = .cont → St w B env D ρ' σ' h') (p : Φ o ρ' σ')

noncomputable def Ex (w : World) (k : Nat) (env : Env) (D : Dm) (ρ : Rho) (σ : List Val) (ss : List Stmt) (Φ : Out → Rho → List Val → Prop) : Prop :=
  ∀ (A : Around) (E : Value → Shared → Prop) (s : Shared) (B : Heap), AOk k A → St w B env D ρ σ s.heap → wpAny (model PGm w) A (execs ss env) (ExPost w B env D Φ s) E s
noncomputable def Ex1 (w : World) (k : Nat) (env : Env) (D : Dm) (ρ : Rho) (σ : List Val) (st : Stmt) (Φ : Out → Rho → List Val → Prop) : Prop :=
  ∀ (A : Around) (E : Value → Shared → Prop) (s : Shared) (B : Heap), AOk k A → St w B env D ρ σ s.heap → wpAny (model PGm w) A (exec st env) (ExPost w B env D Φ s) E s

/-- from behind a step to the whole -/
theorem ExPost.after {Φ : Out → Rho → List Val → Prop} {s : Shared} {h₁ : Heap} {t₁ : Nat} {f : Flow} {s' : Shared} (K : KeptS env D s.heap h₁) (x : ExPost w B env D Φ { s with heap := h₁, toks := t₁ } f s') : ExPost w B env D Φ s f s' := by
  obtain ⟨h', tk, o, ρ', σ', e, k', r, st, S, p⟩ := x
  refine ⟨h', tk, o, ρ', σ', e, K.trans k', ?_, st, S, p⟩
  cases f <;> cases o <;> first | exact r | (
    obtain ⟨a, us, n, e1, e2, e3⟩ := r
    refine ⟨a, us, n, e1, ?_, e3⟩
    cases g : s.heap.get? a with
    | none => rfl
    | some o => exact absurd e2 (K.2 a (by rw [g]; intro q; cases q)))
theorem ExPost.of_step {Φ : Out → Rho → List Val → Prop} {s s₁ : Shared} {f : Flow} {s' : Shared} (S : St w B env D ρ σ s.heap) (p : Step D.m s s₁) (st : Store D σ₁ s₁.heap) (x : ExPost w B env D Φ s₁ f s') : ExPost w B env D Φ s f s' := by
  have K := p.keptS S st
  obtain ⟨h', tk, rfl, _⟩ := p
  exact x.after K
theorem Ex.mono {ss : List Stmt} {Φ Ψ : Out → Rho → List Val → Prop} (x : Ex w k env D ρ σ ss Φ) (h : ∀ o ρ' σ', Φ o ρ' σ' → Ψ o ρ' σ') : Ex w k env D ρ σ ss Ψ := fun A E s B hA S =>
  wpAny_mono (x A E s B hA S) (fun f s' ⟨h', tk, o, ρ', σ', e, k', r, st, S', p⟩ => ⟨h', tk, o, ρ', σ', e, k', r, st, S', h _ _ _ p⟩) fun _ _ e => e

theorem Ex.nil {Φ : Out → Rho → List Val → Prop} (h : Φ .next ρ σ) : Ex w k env D ρ σ [] Φ := fun A E s B hA S =>
  wpAny_execs_nil ⟨s.heap, s.toks, .next, ρ, σ, rfl, .refl, True.intro, S.store, fun _ => S, h⟩
/-- what stands behind a statement: the rest, or the way out -/
noncomputable def Then (w : World) (k : Nat) (env : Env) (D : Dm) (rest : List Stmt) (Φ : Out → Rho → List Val → Prop) : Out → Rho → List Val → Prop
  | .next, ρ', σ' => Ex w k env D ρ' σ' rest Φ
  | o, ρ', σ' => Φ o ρ' σ'
theorem Ex.cons {st : Stmt} {rest : List Stmt} {Φ : Out → Rho → List Val → Prop} (h : Ex1 w k env D ρ σ st (Then w k env D rest Φ)) : Ex w k env D ρ σ (st :: rest) Φ := fun A E s B hA S => by
  refine wpAny_execs_cons (wpAny_mono (h A E s B hA S) (fun f s' x => ?_) fun _ _ e => e)
  obtain ⟨h', tk, o, ρ', σ', rfl, k', r, st, S', p⟩ := x
  cases f <;> cases o <;> first | exact r.elim | skip
  · exact wpAny_mono (p A E _ B hA (S' (.inl rfl))) (fun f s'' x => x.after k') fun _ _ e => e
  · exact ⟨h', tk, .brk, ρ', σ', rfl, k', r, st, S', p⟩
  · exact ⟨h', tk, .cont, ρ', σ', rfl, k', r, st, S', p⟩
  · exact ⟨h', tk, .ret _, ρ', σ', rfl, k', r, st, S', p⟩
  · exact ⟨h', tk, .retNew _, ρ', σ', rfl, k', r, st, S', p⟩
theorem Ex.one {st : Stmt} {Φ : Out → Rho → List Val → Prop} (h : Ex1 w k env D ρ σ st Φ) : Ex w k env D ρ σ [st] Φ :=
  .cons fun A E s B hA S => wpAny_mono (h A E s B hA S) (fun f s' ⟨h', tk, o, ρ', σ', e, k', r, st, S', p⟩ => ⟨h', tk, o, ρ', σ', e, k', r, st, S', by cases o <;> first | exact p | exact Ex.nil p⟩) fun _ _ e => e

theorem Ex1.ret {e : Expr} {pos : Pos} {v : Val} {Φ : Out → Rho → List Val → Prop} (h : Ev w k env D ρ σ e v σ₁) (hp : Φ (.ret v) ρ σ₁) : Ex1 w k env D ρ σ (.Return (some e) pos) Φ := fun A E s B hA S =>
  wpAny_Return_some (seq h hA S fun u s₁ p r S₁ => by
    have K := p.keptS S S₁.store
    obtain ⟨h', tk, rfl, _⟩ := p
    exact ⟨h', tk, .ret v, ρ, σ₁, rfl, K, r, S₁.store, (fun q => by rcases q with q | q | q <;> cases q), hp⟩)
/-- a new list handed back -/
theorem Ex1.retNew {es : List Expr} {lp pos : Pos} {vs : List Val} {Φ : Out → Rho → List Val → Prop} (h : Evs w k env D ρ σ lp es vs σ₁) (hz : vs.length ≤ 1000) (hp : Φ (.retNew vs) ρ σ₁) : Ex1 w k env D ρ σ (.Return (some (.List es lp)) pos) Φ := fun A E s B hA S => by
  refine wpAny_Return_some (wpAny_List_spliced (wpAny_mono (h A E s B hA S) (fun us s₁ ⟨p, r, st⟩ => ⟨by rw [r.length, sizeLine_eq]; lia, ?_⟩) fun _ _ e => e))
  have K := p.keptS S st
  have k1 : ∀ b o, s₁.heap.get? b = some o → (s₁.heap.push { cls := .type "list", data := .seq us.toArray }).get? b = some o := fun b o e => Heap.get?_push_of_some _ e
  refine ⟨_, s₁.toks, .retNew vs, ρ, σ₁, ?_, K.trans (.of_all k1), ?_, st.kept k1, (fun q => by rcases q with q | q | q <;> cases q), hp⟩
  · obtain ⟨h', tk, rfl, _⟩ := p; rfl
  · refine ⟨s₁.heap.objs.size, us.toArray, 0, rfl, ?_, st.off (fresh_none (Nat.le_refl _)), Heap.get?_push_size _ rfl, r.kept (.of_all k1)⟩
    cases g : s.heap.get? s₁.heap.objs.size with
    | none => rfl
    | some o =>
      have := K.2 _ (by rw [g]; intro q; cases q)
      cases g' : s₁.heap.get? s₁.heap.objs.size with
      | none => exact absurd g' this
      | some o' => exact absurd (Heap.lt_size g') (Nat.lt_irrefl _)

theorem Ex1.ifT {t : Expr} {a b : List Stmt} {pos : Pos} {Φ : Out → Rho → List Val → Prop} (ht : Tst w k env D ρ σ t true σ₁) (h : Ex w k env D ρ σ₁ a Φ) : Ex1 w k env D ρ σ (.If t a b pos) Φ := fun A E s B hA S =>
  wpAny_If (seqT ht hA S fun s₁ p S₁ => by
    show wpAny _ _ _ _ _ _
    exact wpAny_mono (h A E s₁ B hA S₁) (fun f s' x => x.of_step S p S₁.store) fun _ _ e => e)
theorem Ex1.ifF {t : Expr} {a b : List Stmt} {pos : Pos} {Φ : Out → Rho → List Val → Prop} (ht : Tst w k env D ρ σ t false σ₁) (h : Ex w k env D ρ σ₁ b Φ) : Ex1 w k env D ρ σ (.If t a b pos) Φ := fun A E s B hA S =>
  wpAny_If (seqT ht hA S fun s₁ p S₁ => by
    show wpAny _ _ _ _ _ _
    exact wpAny_mono (h A E s₁ B hA S₁) (fun f s' x => x.of_step S p S₁.store) fun _ _ e => e)
theorem Ex1.ite {t : Expr} {a b : List Stmt} {pos : Pos} {c : Bool} {Φ : Out → Rho → List Val → Prop} (ht : Tst w k env D ρ σ t c σ₁) (ha : c = true → Ex w k env D ρ σ₁ a Φ) (hb : c = false → Ex w k env D ρ σ₁ b Φ) : Ex1 w k env D ρ σ (.If t a b pos) Φ := by
  cases c with
  | true => exact .ifT ht (ha rfl)
  | false => exact .ifF ht (hb rfl)
theorem Ex1.brk {pos : Pos} {Φ : Out → Rho → List Val → Prop} (h : Φ .brk ρ σ) : Ex1 w k env D ρ σ (.Break pos) Φ := fun A E s B hA S =>
  wpAny_Break ⟨s.heap, s.toks, .brk, ρ, σ, rfl, .refl, True.intro, S.store, fun _ => S, h⟩

/-! names stored -/
theorem ns_unique {h : Heap} {a : Addr} {m m' : Str → Option Value} (x : h.Ns a m) (y : h.Ns a m') : m = m' := by
  obtain ⟨o, es, ep, e, hd, _, hf⟩ := x
  obtain ⟨o', es', ep', e', hd', _, hf'⟩ := y
  rw [e] at e'; cases e'
  rw [hd] at hd'; cases hd'
  funext z
  rw [← hf, ← hf']

/-- a change at one place that bears no list -/
theorem Rep.butAt {h h' : Heap} {p : Addr} (hs : ∀ b o, b ≠ p → h.get? b = some o → h'.get? b = some o) (hp : ∀ o, h.get? p = some o → ∀ us n, o.data ≠ .seq us n) {z : Val} {y : Value} (r : Rep D h z y) : Rep D h' z y :=
  r.keepX (fun _ e => e) fun a o n e ⟨us, m, q⟩ => ⟨hs a o (fun z => hp o (z ▸ e) us m q) e, n⟩
theorem RepL.butAt {h h' : Heap} {p : Addr} (hs : ∀ b o, b ≠ p → h.get? b = some o → h'.get? b = some o) (hp : ∀ o, h.get? p = some o → ∀ us n, o.data ≠ .seq us n) {z : List Val} {y : List Value} (r : RepL D h z y) : RepL D h' z y :=
  r.keepX (fun _ e => e) fun a o n e ⟨us, m, q⟩ => ⟨hs a o (fun z => hp o (z ▸ e) us m q) e, n⟩
theorem Store.butAt {h h' : Heap} {p : Addr} (hs : ∀ b o, b ≠ p → h.get? b = some o → h'.get? b = some o) (hp : ∀ o, h.get? p = some o → ∀ us n, o.data ≠ .seq us n) (hx : p ∉ D.ex ∨ h'.get? p ≠ none) (x : Store D σ h) : Store D σ h' := by
  refine ⟨fun a q => ?_, fun c e => ?_⟩
  · by_cases ha : a = p
    · subst ha
      exact hx.elim (fun z => absurd q z) id
    · cases g : h.get? a with
      | none => exact absurd g (x.1 a q)
      | some o => rw [hs a o ha g]; intro z; cases z
  · obtain ⟨us, n, g, r⟩ := x.2 c e
    exact ⟨us, n, hs c _ (fun z => hp _ (z ▸ g) us n rfl) g, r.butAt hs hp⟩
theorem Heap.Ns.noSeq {h : Heap} {a : Addr} {m : Str → Option Value} (hn : h.Ns a m) : ∀ o, h.get? a = some o → ∀ us n, o.data ≠ .seq us n := fun o e us n q => by
  obtain ⟨o', es, ep, e', hd, _⟩ := hn
  rw [e] at e'; cases e'; rw [hd] at q; cases q
theorem dom_butAt {h h' : Heap} {p : Addr} (hs : ∀ b, b ≠ p → h'.get? b = h.get? b) (hp : h'.get? p ≠ none) : ∀ b, h.get? b ≠ none → h'.get? b ≠ none := fun b e => by
  by_cases q : b = p
  · exact q ▸ hp
  · rw [hs b q]; exact e

theorem lookup_cons_eq {x y : Str} {v : Val} : ((x, v) :: ρ).lookup y = if y = x then some v else ρ.lookup y := by
  rw [List.lookup_cons]
  by_cases h : y = x
  · subst h; simp
  · rw [if_neg h]
    have : (y == x) = false := by simpa using h
    rw [this]

/-- only the frame's own dict has changed -/
noncomputable def KeptL (env : Env) (h h' : Heap) : Prop := (∀ b o, b ≠ env.locals → h.get? b = some o → h'.get? b = some o) ∧ ∀ b, h.get? b ≠ none → h'.get? b ≠ none
theorem KeptL.keptS {h h' : Heap} (a : KeptL env h h') : KeptS env D h h' := ⟨fun b o n _ _ e => a.1 b o n e, a.2⟩
theorem KeptL.trans {h h' h'' : Heap} (a : KeptL env h h') (b : KeptL env h' h'') : KeptL env h h'' := ⟨fun x o n e => b.1 x o n (a.1 x o n e), fun x e => b.2 x (a.2 x e)⟩
theorem St.storeL {x : Str} {v : Val} {u : Value} {h h' : Heap} {m : Str → Option Value} (S : St w B env D ρ σ h) (hx : env.kindOf x = some .local) (r : Rep D h v u) (hn : h.Ns env.locals m)
    (hn' : h'.Ns env.locals (fun y => if y = x then some u else m y)) (hs : Heap.SameBut env.locals h h') : St w B env D ((x, v) :: ρ) σ h' ∧ KeptL env h h' := by
  have hp := Heap.Ns.noSeq hn
  have kk : ∀ b o, b ≠ env.locals → h.get? b = some o → h'.get? b = some o := fun b o n e => (hs.2 b n).trans e
  have cellOff : ∀ y c, env.cells.lookup y = some c → c ≠ env.locals := fun y c e q => by
    obtain ⟨o, v', g, hd⟩ := S.cells y c e
    obtain ⟨o', es, ep, e', hd', _⟩ := hn
    rw [q, e'] at g; cases g; rw [hd'] at hd; cases hd
  refine ⟨⟨S.frame, fun y z e => ?_, S.ground, ?_, S.newD, S.newC, fun y c e => ?_, S.store.butAt kk hp (.inr ?_)⟩, fun b o n e => kk b o n e, dom_butAt hs.2 ?_⟩
  · rw [lookup_cons_eq] at e
    by_cases q : y = x
    · rw [if_pos q] at e
      cases e
      refine ⟨u, ?_, r.butAt kk hp⟩
      unfold HeldAt
      rw [q, hx]
      exact ⟨_, hn', by simp⟩
    · rw [if_neg q] at e
      obtain ⟨u', hh, r'⟩ := S.names y z e
      refine ⟨u', ?_, r'.butAt kk hp⟩
      unfold HeldAt at hh ⊢
      split at hh
      · obtain ⟨m', hm', e'⟩ := hh
        refine ⟨_, hn', ?_⟩
        rw [ns_unique hm' hn] at e'
        simpa [q] using e'
      · obtain ⟨c, o, e1, e2, e3⟩ := hh
        exact ⟨c, o, e1, kk c o (cellOff _ _ e1) e2, e3⟩
      · obtain ⟨c, o, e1, e2, e3⟩ := hh
        exact ⟨c, o, e1, kk c o (cellOff _ _ e1) e2, e3⟩
      · exact hh.elim
  · obtain ⟨m', F⟩ := S.fr
    exact ⟨_, F.set hn' hs⟩
  · obtain ⟨o, v', g, hd⟩ := S.cells y c e
    exact ⟨o, v', kk c o (cellOff y c e) g, hd⟩
  all_goals
    obtain ⟨o, _, _, g, _⟩ := hn'
    rw [g]; intro q; cases q

theorem St.storeC {x : Str} {c : Addr} {v : Val} {u : Value} {h h' : Heap} (S : St w B env D ρ σ h) (hx : env.kindOf x = some .cell) (hc : env.cells.lookup x = some c) (r : Rep D h v u)
    (hn' : h'.IsCell c (some u)) (hs : Heap.SameBut c h h') : St w B env D ((x, v) :: ρ) σ h' ∧ KeptS env D h h' := by
  obtain ⟨oc, vc, gc, hdc⟩ := S.cells x c hc
  have hp : ∀ o, h.get? c = some o → ∀ us n, o.data ≠ .seq us n := fun o e us n q => by rw [gc] at e; cases e; rw [hdc] at q; cases q
  have kk : ∀ b o, b ≠ c → h.get? b = some o → h'.get? b = some o := fun b o n e => (hs.2 b n).trans e
  obtain ⟨m₀, F₀⟩ := S.fr
  have lOff : env.locals ≠ c := fun q => by
    obtain ⟨o', es, ep, e', hd', _⟩ := F₀.ns
    rw [q, gc] at e'; cases e'; rw [hdc] at hd'; cases hd'
  have nsK : ∀ {m}, h.Ns env.locals m → h'.Ns env.locals m := fun hm => hm.sameBut hs lOff
  refine ⟨⟨S.frame, fun y z e => ?_, S.ground, ?_, S.newD, S.newC, fun y c' e => ?_, S.store.butAt kk hp (.inr ?_)⟩, fun b o _ _ n e => kk b o (fun q => n x (q ▸ hc)) e, dom_butAt hs.2 ?_⟩
  · rw [lookup_cons_eq] at e
    by_cases q : y = x
    · rw [if_pos q] at e
      cases e
      refine ⟨u, ?_, r.butAt kk hp⟩
      unfold HeldAt
      rw [q, hx]
      obtain ⟨o, g, hd⟩ := hn'
      exact ⟨c, o, hc, g, hd⟩
    · rw [if_neg q] at e
      obtain ⟨u', hh, r'⟩ := S.names y z e
      refine ⟨u', ?_, r'.butAt kk hp⟩
      unfold HeldAt at hh ⊢
      split at hh
      · obtain ⟨m', hm', e'⟩ := hh
        exact ⟨m', nsK hm', e'⟩
      · obtain ⟨c', o, e1, e2, e3⟩ := hh
        exact ⟨c', o, e1, kk c' o (fun z => q (S.frame.apart _ _ _ e1 (z ▸ hc))) e2, e3⟩
      · obtain ⟨c', o, e1, e2, e3⟩ := hh
        exact ⟨c', o, e1, kk c' o (fun z => q (S.frame.apart _ _ _ e1 (z ▸ hc))) e2, e3⟩
      · exact hh.elim
  · exact ⟨m₀, nsK F₀.ns, fun b o e => kk b o (fun q => by rw [q, S.newC x c hc] at e; cases e) (F₀.keep b o e), F₀.above⟩
  · by_cases q : c' = c
    · subst q
      obtain ⟨o, g, hd⟩ := hn'
      exact ⟨o, _, g, hd⟩
    · obtain ⟨o, v', g, hd⟩ := S.cells y c' e
      exact ⟨o, v', kk c' o q g, hd⟩
  all_goals
    obtain ⟨o, g, _⟩ := hn'
    rw [g]; intro q; cases q

/-- a name is stored -/
theorem store {x : Str} {v : Val} {u : Value} {A : Around} {E : Value → Shared → Prop} {s : Shared} {Q : Unit → Shared → Prop} (S : St w B env D ρ σ s.heap) (hx : env.kindOf x = some .local ∨ env.kindOf x = some .cell ∧ (env.cells.lookup x).isSome = true) (r : Rep D s.heap v u)
    (h : ∀ h' tk, St w B env D ((x, v) :: ρ) σ h' → KeptS env D s.heap h' → Q () { s with heap := h', toks := tk }) : wpAny (model PGm w) A (storeName env x u) Q E s := by
  rcases hx with hx | ⟨hx, hs⟩
  · obtain ⟨m, F⟩ := S.fr
    refine wpAny_storeName_local hx F.ns (fun h' hn' hs => ?_) (by rw [S.frame.kind]; rfl)
    obtain ⟨a, b⟩ := S.storeL hx r F.ns hn' hs
    exact h h' _ a b.keptS
  · obtain ⟨c, hc⟩ := Option.isSome_iff_exists.mp hs
    obtain ⟨oc, vc, gc, hdc⟩ := S.cells x c hc
    refine wpAny_storeName_cell S.frame.kind hx hc ⟨oc, gc, hdc⟩ (fun h' hv' hs' => ?_)
    obtain ⟨a, b⟩ := S.storeC hx hc r hv' hs'
    exact h h' s.toks a b

theorem storeLoc {x : Str} {v : Val} {u : Value} {A : Around} {E : Value → Shared → Prop} {s : Shared} {Q : Unit → Shared → Prop} (S : St w B env D ρ σ s.heap) (hx : env.kindOf x = some .local) (r : Rep D s.heap v u)
    (h : ∀ h' tk, St w B env D ((x, v) :: ρ) σ h' → KeptL env s.heap h' → Q () { s with heap := h', toks := tk }) : wpAny (model PGm w) A (storeName env x u) Q E s := by
  obtain ⟨m, F⟩ := S.fr
  refine wpAny_storeName_local hx F.ns (fun h' hn' hs => ?_) (by rw [S.frame.kind]; rfl)
  obtain ⟨a, b⟩ := S.storeL hx r F.ns hn' hs
  exact h h' _ a b

theorem Ex1.assign {x : Str} {px pos : Pos} {e : Expr} {v : Val} {Φ : Out → Rho → List Val → Prop} (he : Ev w k env D ρ σ e v σ₁) (h : Φ .next ((x, v) :: ρ) σ₁)
    (hx : env.kindOf x = some .local ∨ env.kindOf x = some .cell ∧ (env.cells.lookup x).isSome = true)
    (hs : swapsWith e (some (.Name x px)) pos.line env = pure false) : Ex1 w k env D ρ σ (.Assign [.Name x px] e pos) Φ := fun A E s B hA S =>
  wpAny_Assign_Name (seq he hA S fun u s₁ p r S₁ => store S₁ hx r fun h' tk S₂ K => by
    have K₁ := p.keptS S S₁.store
    obtain ⟨h₁, t₁, rfl, _⟩ := p
    exact ⟨h', tk, .next, _, σ₁, rfl, K₁.trans K, True.intro, S₂.store, fun _ => S₂, h⟩) hs

/-- x += e and its kin, on ints -/
noncomputable def Inp (w : World) (op : Operator) (a b v : Int) : Prop :=
  ∀ (A : Around) (E : Value → Shared → Prop) (s : Shared) (t u : Tok), wpAny (model PGm w) A (inplaceOp op (.int a t) (.int b u)) (fun y s' => ∃ tk t', s' = { s with toks := tk } ∧ y = .int v t') E s
theorem Inp.add {a b : Int} : Inp w .Add a b (a + b) := fun A E s t u => by
  with_reducible refine PyProof.Rows.iadd_int ?_
  exact ⟨_, _, rfl, rfl⟩
theorem Inp.sub {a b : Int} : Inp w .Sub a b (a - b) := fun A E s t u => by
  with_reducible refine PyProof.Rows.isub_int ?_
  exact ⟨_, _, rfl, rfl⟩
theorem Inp.div {a b : Int} (hb : b ≠ 0) (h : Builtin.divisionGoesByPylong a b = false) : Inp w .FloorDiv a b (a.fdiv b) := fun A E s t u => by
  with_reducible refine PyProof.Rows.ifloordiv_int hb ?_ (.inl h)
  exact ⟨_, _, rfl, rfl⟩
theorem Ex1.aug {x : Str} {px pos : Pos} {op : Operator} {e : Expr} {a b v : Int} {Φ : Out → Rho → List Val → Prop} (hx : ρ.lookup x = some (.int a)) (he : Ev w k env D ρ σ e (.int b) σ₁) (hi : Inp w op a b v) (h : Φ .next ((x, .int v) :: ρ) σ₁)
    (hk : env.kindOf x = some .local) : Ex1 w k env D ρ σ (.AugAssign (.Name x px) op e pos) Φ := fun A E s B hA S => by
  refine wpAny_AugAssign_Name ?_
  obtain ⟨u, hh, t, e'⟩ := S.names x _ hx
  subst e'
  unfold HeldAt at hh
  rw [hk] at hh
  obtain ⟨m, hn, hm⟩ := hh
  refine wpAny_loadName_local S.frame.kind hk hn hm ?_
  refine seq he hA S fun u s₁ p ⟨t', e'⟩ S₁ => ?_
  subst e'
  refine wpAny_mono (hi A E s₁ t t') (fun y s₂ ⟨tk, t'', e1, e2⟩ => ?_) fun _ _ e => e
  subst e1 e2
  refine store (s := { s₁ with toks := tk }) S₁ (.inl hk) (v := .int v) ⟨_, rfl⟩ fun h' tk S₂ K => ?_
  have K₁ := p.keptS S S₁.store
  obtain ⟨h₁, t₁, rfl, _⟩ := p
  exact ⟨h', tk, .next, _, σ₁, rfl, K₁.trans K, True.intro, S₂.store, fun _ => S₂, h⟩
/-- an expression for its doing alone -/
theorem Ex1.expr {e : Expr} {pos : Pos} {Φ : Out → Rho → List Val → Prop} (he : Ev w k env D ρ σ e .none σ₁) (h : Φ .next ρ σ₁)
    (hi : interactive env = false) (hs : swapsWith e .none pos.line env = pure false) : Ex1 w k env D ρ σ (.Expr e pos) Φ := fun A E s B hA S =>
  wpAny_Expr (seq he hA S fun u s₁ p r S₁ => by
    have K₁ := p.keptS S S₁.store
    obtain ⟨h₁, t₁, rfl, _⟩ := p
    cases r
    exact ⟨h₁, t₁, .next, _, σ₁, rfl, K₁, True.intro, S₁.store, fun _ => S₁, h⟩) hi hs
end
end

section
open PySem PySem.Spec PySem.Calls PySem.W PyProof.Rows
section
variable {w : World} {k : Nat} {B : Heap} {env : Env} {D : Dm} {ρ : Rho} {σ σ₁ σ₂ σ₃ : List Val}

/-- a change at a place that is none of the frame's -/
theorem St.butAt {h h' : Heap} {p : Addr} {o : Obj} (S : St w B env D ρ σ h) (hs : ∀ b o, b ≠ p → h.get? b = some o → h'.get? b = some o) (ho : h.get? p = some o) (h1 : ∀ us n, o.data ≠ .seq us n) (h2 : ∀ es n, o.data ≠ .dict es n) (h3 : ∀ v, o.data ≠ .cell v) (hB : B.get? p = none) (hx : p ∉ D.ex) :
    St w B env D ρ σ h' := by
  have hp : ∀ o', h.get? p = some o' → ∀ us n, o'.data ≠ .seq us n := fun o' e => by rw [ho] at e; cases e; exact h1
  obtain ⟨m, F⟩ := S.fr
  have lOff : env.locals ≠ p := fun q => by
    obtain ⟨o', es, ep, e', hd', _⟩ := F.ns
    rw [q, ho] at e'; cases e'; exact h2 _ _ hd'
  have cOff : ∀ c o', h.get? c = some o' → (∃ v, o'.data = .cell v) → c ≠ p := fun c o' e ⟨v, hd⟩ q => by
    rw [q, ho] at e; cases e; exact h3 _ hd
  have nsK : ∀ {m}, h.Ns env.locals m → h'.Ns env.locals m := fun ⟨o', es, ep, e', r⟩ => ⟨o', es, ep, hs _ _ lOff e', r⟩
  refine ⟨S.frame, fun y z e => ?_, S.ground, ⟨m, nsK F.ns, fun b o' e => hs b o' (fun q => by rw [q, hB] at e; cases e) (F.keep b o' e), F.above⟩, S.newD, S.newC, fun y c e => ?_, S.store.butAt hs hp (.inl hx)⟩
  · obtain ⟨u', hh, r'⟩ := S.names y z e
    refine ⟨u', ?_, r'.butAt hs hp⟩
    unfold HeldAt at hh ⊢
    split at hh
    · obtain ⟨m', hm', e'⟩ := hh
      exact ⟨m', nsK hm', e'⟩
    · obtain ⟨c', o', e1, e2, e3⟩ := hh
      exact ⟨c', o', e1, hs _ _ (cOff _ _ e2 ⟨_, e3⟩) e2, e3⟩
    · obtain ⟨c', o', e1, e2, e3⟩ := hh
      exact ⟨c', o', e1, hs _ _ (cOff _ _ e2 ⟨_, e3⟩) e2, e3⟩
    · exact hh.elim
  · obtain ⟨o', v', g, hd⟩ := S.cells y c e
    exact ⟨o', v', hs _ _ (cOff _ _ g ⟨_, hd⟩) g, hd⟩

/-- what a statement keeps, seen at one object -/
theorem KeptS.obj {h h' : Heap} {b : Addr} {o : Obj} (K : KeptS env D h h') (S : St w B env D ρ σ h) (ho : h.get? b = some o) (h2 : ∀ es n, o.data ≠ .dict es n) (h3 : ∀ v, o.data ≠ .cell v) (hD : D.m ≠ some b) : h'.get? b = some o := by
  obtain ⟨m, F⟩ := S.fr
  refine K.1 b o (fun q => ?_) hD (fun x q => ?_) ho
  · obtain ⟨o', es, ep, e', hd', _⟩ := F.ns
    rw [← q, ho] at e'; cases e'; exact h2 _ _ hd'
  · obtain ⟨o', v', g, hd⟩ := S.cells x b q
    rw [ho] at g; cases g; exact h3 _ hd
theorem KeptS.rep {h h' : Heap} (K : KeptS env D h h') (S : St w B env D ρ σ h) {x : Val} {u : Value} (r : Rep D h x u) : Rep D h' x u :=
  r.keepX (fun _ e => e) fun a o n e ⟨us, m, q⟩ => ⟨K.obj S e (by rw [q]; intro _ _ z; cases z) (by rw [q]; intro _ z; cases z) n.1, n⟩
/-- behind a loop's turn -/
noncomputable def LoopΦ (J : Rho → List Val → Prop) (Φ : Out → Rho → List Val → Prop) : Out → Rho → List Val → Prop
  | .next, ρ', σ' => J ρ' σ'
  | .cont, ρ', σ' => J ρ' σ'
  | .brk, ρ', σ' => Φ .next ρ' σ'
  | .ret v, ρ', σ' => Φ (.ret v) ρ' σ'
  | .retNew v, ρ', σ' => Φ (.retNew v) ρ' σ'

/-- behind a turn that goes on -/
inductive LoopE (w : World) (B : Heap) (env : Env) (D : Dm) (s : Shared) (J : Rho → List Val → Prop) (s' : Shared) : Prop
  | mk (h : Heap) (tk : Nat) (ρ' : Rho) (σ' : List Val) (e : s' = { s with heap := h, toks := tk }) (K : KeptS env D s.heap h) (S : St w B env D ρ' σ' h) (j : J ρ' σ')
noncomputable def LoopOut (w : World) (B : Heap) (env : Env) (D : Dm) (s : Shared) (J : Rho → List Val → Prop) (Φ : Out → Rho → List Val → Prop) (s' : Shared) : Flow → Prop
  | .next => LoopE w B env D s J s'
  | .cont => LoopE w B env D s J s'
  | .brk => ExPost w B env D Φ s .next s'
  | .ret u => ExPost w B env D Φ s (.ret u) s'
theorem ExPost.loop {J : Rho → List Val → Prop} {Φ : Out → Rho → List Val → Prop} {s s' : Shared} {f : Flow} (x : ExPost w B env D (LoopΦ J Φ) s f s') : LoopOut w B env D s J Φ s' f := by
  obtain ⟨h₃, t₃, o, ρ₃, σ₃, e, K₃, r, st, S₃, hΦ⟩ := x
  cases f <;> cases o <;> first | exact r.elim | skip
  · exact ⟨h₃, t₃, ρ₃, σ₃, e, K₃, S₃ (.inl rfl), hΦ⟩
  · exact ⟨h₃, t₃, .next, ρ₃, σ₃, e, K₃, True.intro, st, fun _ => S₃ (.inr (.inl rfl)), hΦ⟩
  · exact ⟨h₃, t₃, ρ₃, σ₃, e, K₃, S₃ (.inr (.inr rfl)), hΦ⟩
  · exact ⟨h₃, t₃, .ret _, ρ₃, σ₃, e, K₃, r, st, S₃, hΦ⟩
  · exact ⟨h₃, t₃, .retNew _, ρ₃, σ₃, e, K₃, r, st, S₃, hΦ⟩
/-- while: an invariant and a measure -/
theorem Ex1.while {t : Expr} {body : List Stmt} {pos : Pos} {Φ : Out → Rho → List Val → Prop} (J : Nat → Rho → List Val → Prop) (n₀ : Nat) (h0 : J n₀ ρ σ)
    (turn : ∀ n ρ' σ', J n ρ' σ' → ∃ b σ'', Tst w k env D ρ' σ' t b σ'' ∧
      (b = true → Ex w k env D ρ' σ'' body (LoopΦ (fun ρ₁ σ₁ => ∃ m, m < n ∧ J m ρ₁ σ₁) Φ)) ∧ (b = false → Φ .next ρ' σ'')) :
    Ex1 w k env D ρ σ (.While t body [] pos) Φ := fun A E s B hA S => by
  refine wpAny_While (codeAny_whileLoop (fun n s' => LoopE w B env D s (J n) s') (fun n s' hI => ?_) n₀ ⟨s.heap, s.toks, ρ, σ, rfl, .refl, S, h0⟩)
  obtain ⟨h, tk, ρ', σ', rfl, K, S', hJ⟩ := hI
  obtain ⟨b, σ'', ht, hT, hF⟩ := turn n ρ' σ' hJ
  refine seqT ht hA S' fun s₂ p S₂ => ?_
  have K₂ := K.trans (p.keptS S' S₂.store)
  obtain ⟨h₂, t₂, rfl, _⟩ := p
  cases b with
  | false =>
    refine wpAny_execs_nil ?_
    exact ⟨h₂, t₂, .next, ρ', σ'', rfl, K₂, True.intro, S₂.store, fun _ => S₂, hF rfl⟩
  | true =>
    refine wpAny_mono (hT rfl A _ _ B hA S₂) (fun f s₃ x => ?_) fun _ _ e => e
    have y := (ExPost.after K₂ x).loop
    have next : LoopE w B env D s (fun ρ₁ σ₁ => ∃ m, m < n ∧ J m ρ₁ σ₁) s₃ → ∃ m, m < n ∧ LoopE w B env D s (J m) s₃ := fun ⟨h₃, t₃, ρ₃, σ₃, e, K', S₃, m, hm, hJ'⟩ => ⟨m, hm, h₃, t₃, ρ₃, σ₃, e, K', S₃, hJ'⟩
    cases f with
    | next => exact next y
    | cont => exact next y
    | brk => exact y
    | ret u => exact y

theorem St.freshB {h : Heap} (S : St w B env D ρ σ h) {p : Addr} (hp : h.get? p = none) : B.get? p = none := by
  obtain ⟨m, F⟩ := S.fr
  cases e : B.get? p with
  | none => rfl
  | some o => rw [F.keep p o e] at hp; cases hp
theorem St.of_all {h h' : Heap} (S : St w B env D ρ σ h) (a : ∀ b o, h.get? b = some o → h'.get? b = some o) : St w B env D ρ σ h' :=
  S.step (s := { heap := h }) (s' := { heap := h' }) ⟨h', 1, rfl, .of_all a⟩ (S.store.kept a)

theorem KeptS.extBut {h₀ h h' : Heap} {p : Addr} (K : KeptS env D h₀ h) (hp : h₀.get? p = none) (kk : ∀ b o, b ≠ p → h.get? b = some o → h'.get? b = some o) : KeptS env D h₀ h' :=
  ⟨fun b o n1 n2 n3 e => kk b o (fun q => by rw [q, hp] at e; cases e) (K.1 b o n1 n2 n3 e), fun b e q => by
    cases g : h.get? b with
    | none => exact K.2 b e g
    | some o => rw [kk b o (fun z => e (z ▸ hp)) g] at q; cases q⟩
theorem KeptS.retNone {h h' : Heap} (K : KeptS env D h h') {a : Addr} (e : h'.get? a = none) : h.get? a = none := by
  cases g : h.get? a with
  | none => rfl
  | some o => exact absurd e (K.2 a (by rw [g]; intro q; cases q))

/-- where a loop's items come from -/
structure Src (w : World) (D : Dm) (I : Addr) (xs : List Val) (It : Nat → Heap → Prop) : Prop where
  obj : ∀ i h, It i h → ∃ o z, h.get? I = some o ∧ o.data = .fields z
  stable : ∀ i h h', It i h → (∀ o, h.get? I = some o → h'.get? I = some o) → (∀ a o, D.off a → h.get? a = some o → (∃ us n, o.data = .seq us n) → h'.get? a = some o) → It i h'
  item : ∀ i v (A : Around) (E : Value → Shared → Prop) (s : Shared) (Q : Option Value → Shared → Prop), A.handled = .none → xs[i]? = some v → It i s.heap →
    (∀ u h' tk, It (i + 1) h' → Rep D h' v u → (∀ b o, b ≠ I → s.heap.get? b = some o → h'.get? b = some o) → Q (some u) { s with heap := h', toks := tk }) → wpAny (model PGm w) A (pyNext (.ref I)) Q E s
  done : ∀ (A : Around) (E : Value → Shared → Prop) (s : Shared) (Q : Option Value → Shared → Prop), A.handled = .none → It xs.length s.heap →
    (∀ h', (∀ b o, b ≠ I → s.heap.get? b = some o → h'.get? b = some o) → Q .none { s with heap := h' }) → wpAny (model PGm w) A (pyNext (.ref I)) Q E s
  self : ∀ i (A : Around) (E : Value → Shared → Prop) (s : Shared) (Q : Value → Shared → Prop), It i s.heap → Q (.ref I) s → wpAny (model PGm w) A (pyIter (.ref I)) Q E s

theorem Src.list {I l : Addr} {xs : List Val} {us : List Value} (hl : l ≠ I) (hD : D.off l) : Src w D I xs (fun i h => h.IsListIter I l i ∧ h.IsList l us.toArray ∧ RepL D h xs us) where
  obj := fun i h ⟨⟨o, g, _, d⟩, _⟩ => ⟨o, _, g, d⟩
  stable := fun i h h' ⟨⟨o, g, c, d⟩, ⟨o', g', c', n', d'⟩, r⟩ k1 k2 => ⟨⟨o, k1 o g, c, d⟩, ⟨o', k2 l o' hD g' ⟨_, _, d'⟩, c', n', d'⟩, r.keepX (fun _ e => e) fun a o n e q => ⟨k2 a o n e q, n⟩⟩
  item := fun i v A E s Q hh hx ⟨hit, hL, r⟩ h => by
    obtain ⟨u, hu, ru⟩ := r.get hx
    obtain ⟨oI, gI, _, dI⟩ := id hit
    refine wpAny_pyNext_list_item hit hL (x := u) (by simpa using hu) (fun h₂ hit₂ hsb => ?_)
    have kk : ∀ b o, b ≠ I → s.heap.get? b = some o → h₂.get? b = some o := fun b o n e => (hsb.2 b n).trans e
    have hp : ∀ o, s.heap.get? I = some o → ∀ us n, o.data ≠ .seq us n := fun o e us n q => by rw [gI] at e; cases e; rw [dI] at q; cases q
    exact h u h₂ s.toks ⟨hit₂, isList_kept hL fun o e => kk l o hl e, r.butAt kk hp⟩ (ru.butAt kk hp) kk
  done := fun A E s Q hh ⟨hit, hL, r⟩ h => by
    refine wpAny_pyNext_list_end hh hit hL ?_ (fun h₂ he => h h₂ fun b o n e => he b o n e)
    have := r.length
    simp only [List.getElem?_toArray]; exact List.getElem?_eq_none (by lia)
  self := fun i A E s Q ⟨hit, _⟩ h => wpAny_pyIter_listiter hit h
/-- the ints 0 .. n - 1 -/
noncomputable def rangeV (n : Nat) : List Val := (List.range n).map fun (i : Nat) => .int (i : Int)
theorem rangeV_get {n i : Nat} {v : Val} (h : (rangeV n)[i]? = some v) : i < n ∧ v = .int (i : Int) := by
  unfold rangeV at h
  rw [List.getElem?_map] at h
  rcases Nat.lt_or_ge i n with q | q
  · rw [List.getElem?_range q] at h
    exact ⟨q, by simpa using h.symm⟩
  · rw [List.getElem?_eq_none (by simpa using q)] at h; cases h
theorem rangeV_len {n : Nat} : (rangeV n).length = n := by simp [rangeV]
theorem Src.range {I : Addr} {n : Nat} : Src w D I (rangeV n) (fun i h => IsRangeIter h I (i : Int) ((n : Int) - i) 1) where
  obj := fun i h g => ⟨_, _, g, rfl⟩
  stable := fun i h h' g k1 _ => k1 _ g
  item := fun i v A E s Q hh hx g h => by
    obtain ⟨hi, rfl⟩ := rangeV_get hx
    refine wpAny_pyNext_range_item g (by lia) (fun h₂ hit₂ hsb => ?_)
    refine h _ h₂ _ ?_ ⟨_, rfl⟩ (fun b o n e => (hsb.2 b n).trans e)
    have e1 : ((i + 1 : Nat) : Int) = (i : Int) + 1 := by lia
    have e2 : (n : Int) - ((i + 1 : Nat) : Int) = (n : Int) - i - 1 := by lia
    rw [e2, e1]; exact hit₂
  done := fun A E s Q hh g h => by
    rw [rangeV_len] at g
    exact wpAny_pyNext_range_end hh g (by lia) (fun h₂ he => h h₂ fun b o n e => he b o n e)
  self := fun i A E s Q g h => wpAny_pyIter_rangeiter g h

/-- between the turns of a for -/
inductive ForI (w : World) (B : Heap) (env : Env) (D : Dm) (s : Shared) (N : Nat) (It : Nat → Heap → Prop) (J : Nat → Rho → List Val → Prop) (n : Nat) (s' : Shared) : Prop
  | mk (i : Nat) (h : Heap) (tk : Nat) (ρ' : Rho) (σ' : List Val) (e : s' = { s with heap := h, toks := tk }) (en : n = N + 1 - i) (le : i ≤ N) (it : It i h) (K : KeptS env D s.heap h) (S : St w B env D ρ' σ' h) (j : J i ρ' σ')
theorem forLoop_src {x : Str} {px : Pos} {body : List Stmt} {xs : List Val} {Φ : Out → Rho → List Val → Prop} {I : Addr} {It : Nat → Heap → Prop} {A : Around} {s : Shared} {h₁ : Heap} {t₁ : Nat} {R : Result → Shared → Prop} (J : Nat → Rho → List Val → Prop) (src : Src w D I xs It)
    (hA : AOk k A) (S₁ : St w B env D ρ σ h₁) (K₁ : KeptS env D s.heap h₁) (hIs : s.heap.get? I = none) (hIB : B.get? I = none) (hIx : I ∉ D.ex) (hIt : It 0 h₁) (h0 : J 0 ρ σ)
    (turn : ∀ i v ρ' σ', xs[i]? = some v → J i ρ' σ' → Ex w k env D ((x, v) :: ρ') σ' body (LoopΦ (J (i + 1)) Φ))
    (done : ∀ ρ' σ', J xs.length ρ' σ' → Φ .next ρ' σ') (hx : env.kindOf x = some .local ∨ env.kindOf x = some .cell ∧ (env.cells.lookup x).isSome = true)
    (hR : ∀ f s', ExPost w B env D Φ s f s' → R (.ok f) s') :
    codeAny (model PGm w) A (.forLoop (.Name x px) (.ref I) body [] env) R { s with heap := h₁, toks := t₁ } := by
  refine codeAny_forLoop (fun n s' => ForI w B env D s xs.length It J n s') (fun n s' hIv => ?_) (xs.length + 1) ⟨0, h₁, t₁, ρ, σ, rfl, rfl, Nat.zero_le _, hIt, K₁, S₁, h0⟩
  obtain ⟨i, h, tk, ρ', σ', rfl, rfl, hle, hit, K, S', hJ⟩ := hIv
  obtain ⟨oI, zI, gI, dI⟩ := src.obj i h hit
  have n1 : ∀ us n, oI.data ≠ .seq us n := fun _ _ q => by rw [dI] at q; cases q
  have n2 : ∀ us n, oI.data ≠ .dict us n := fun _ _ q => by rw [dI] at q; cases q
  have n3 : ∀ v, oI.data ≠ .cell v := fun _ q => by rw [dI] at q; cases q
  cases hv : xs[i]? with
  | none =>
    have hei : i = xs.length := by
      have h2 : xs.length ≤ i := by simpa using hv
      lia
    subst hei
    refine src.done A _ { s with heap := h, toks := tk } _ hA.1 hit (fun h₂ kk => wpAny_execs_nil ?_)
    have S₂ := S'.butAt kk gI n1 n2 n3 hIB hIx
    exact hR _ _ ⟨h₂, tk, .next, ρ', σ', rfl, K.extBut hIs kk, True.intro, S₂.store, fun _ => S₂, done _ _ hJ⟩
  | some v =>
    refine src.item i v A _ { s with heap := h, toks := tk } _ hA.1 hv hit (fun u h₂ t₂ hit₂ ru kk => ?_)
    have S₂ := S'.butAt kk gI n1 n2 n3 hIB hIx
    have K₂ := K.extBut hIs kk
    refine wpAny_assign_Name (store (s := { s with heap := h₂, toks := t₂ }) S₂ hx ru fun h₃ tk₃ S₃ K₃ => ?_)
    have K₃' := K₂.trans K₃
    refine wpAny_mono (turn i v ρ' σ' hv hJ A _ { s with heap := h₃, toks := tk₃ } B hA S₃) (fun f s₄ x => ?_) fun _ _ e => e
    have y := x.loop
    have hlt : i < xs.length := by
      rcases Nat.lt_or_ge i xs.length with q | q
      · exact q
      · rw [List.getElem?_eq_none q] at hv; cases hv
    have next : LoopE w B env D { s with heap := h₃, toks := tk₃ } (J (i + 1)) s₄ → ∃ m, m < xs.length + 1 - i ∧ ForI w B env D s xs.length It J m s₄ := fun ⟨h₄, t₄, ρ₄, σ₄, e, K₄, S₄, hJ'⟩ => by
      subst e
      obtain ⟨oJ, zJ, gJ, dJ⟩ := src.obj _ _ hit₂
      have offI : ∀ {ρ σ h}, St w B env D ρ σ h → h.get? I = some oJ → D.m ≠ some I := fun S e q => by
        obtain ⟨us', n', g, _⟩ := S.store.cell q
        rw [e] at g; cases g; cases dJ
      have gJ₃ := K₃.obj S₂ gJ (by rw [dJ]; intro _ _ q; cases q) (by rw [dJ]; intro _ q; cases q) (offI S₂ gJ)
      have gJ₄ := K₄.obj S₃ gJ₃ (by rw [dJ]; intro _ _ q; cases q) (by rw [dJ]; intro _ q; cases q) (offI S₃ gJ₃)
      have hit₄ : It (i + 1) h₄ := src.stable _ _ _ hit₂ (fun o e => by rw [gJ] at e; cases e; exact gJ₄) fun a o n e ⟨us, m, q⟩ => by
        have e₃ := K₃.obj S₂ e (by rw [q]; intro _ _ q; cases q) (by rw [q]; intro _ q; cases q) n.1
        exact K₄.obj S₃ e₃ (by rw [q]; intro _ _ q; cases q) (by rw [q]; intro _ q; cases q) n.1
      exact ⟨xs.length + 1 - (i + 1), Nat.sub_lt_sub_left (Nat.lt_succ_of_lt hlt) (Nat.lt_succ_self i), i + 1, h₄, t₄, ρ₄, σ₄, rfl, rfl, hlt, hit₄, K₃'.trans K₄, S₄, hJ'⟩
    cases f with
    | next => exact next y
    | cont => exact next y
    | brk => exact hR _ _ (ExPost.after K₃' y)
    | ret u => exact hR _ _ (ExPost.after K₃' y)

/-- for x in a list -/
theorem Ex1.forL {x : Str} {px pos : Pos} {iter : Expr} {body : List Stmt} {xs : List Val} {Φ : Out → Rho → List Val → Prop} (J : Nat → Rho → List Val → Prop) (hi : Ev w k env D ρ σ iter (.list xs) σ₁) (h0 : J 0 ρ σ₁)
    (turn : ∀ i v ρ' σ', xs[i]? = some v → J i ρ' σ' → Ex w k env D ((x, v) :: ρ') σ' body (LoopΦ (J (i + 1)) Φ))
    (done : ∀ ρ' σ', J xs.length ρ' σ' → Φ .next ρ' σ')
    (hx : env.kindOf x = some .local ∨ env.kindOf x = some .cell ∧ (env.cells.lookup x).isSome = true)
    (hs : ∀ x, foldedSetIterable iter env x = pure x) : Ex1 w k env D ρ σ (.For (.Name x px) iter body [] pos) Φ := fun A E s B hA S => by
  refine wpAny_For (seq hi hA S fun u s₁ p₁ r₁ S₁ => ?_) hs
  obtain ⟨l, us, rfl, hlD, hl, hr⟩ := r₁
  have K₁ := p₁.keptS S S₁.store
  obtain ⟨h₁, t₁, rfl, _⟩ := p₁
  refine wpAny_pyIter_list hl ?_
  have hI0 : h₁.get? h₁.objs.size = none := fresh_none (Nat.le_refl _)
  have k0 : ∀ b o, h₁.get? b = some o → (h₁.push { cls := .type "list_iterator", data := .fields #[.ref l, .int 0 0] }).get? b = some o := fun b o e => Heap.get?_push_of_some _ e
  have hll : l ≠ h₁.objs.size := by obtain ⟨o, ho, _⟩ := hl; intro q; dsimp only at ho; rw [q, hI0] at ho; cases ho
  exact forLoop_src (s := s) J (Src.list (us := us) hll hlD) hA (S₁.of_all k0) (K₁.trans (.of_all k0)) (K₁.retNone hI0) (S₁.freshB hI0) (fun q => S₁.store.1 _ q hI0)
    ⟨⟨_, Heap.get?_push_size _ rfl, rfl, rfl⟩, isList_kept hl (k0 l), hr.kept (.of_all k0)⟩ h0 turn done hx (fun f s' x => x)

/-- an expression range(e) -/
noncomputable def EvR (w : World) (k : Nat) (env : Env) (D : Dm) (ρ : Rho) (σ : List Val) (e : Expr) (n : Nat) (σ' : List Val) : Prop :=
  ∀ (A : Around) (E : Value → Shared → Prop) (s : Shared) (B : Heap), AOk k A → St w B env D ρ σ s.heap →
    wpAny (model PGm w) A (eval e env) (fun u s' => Step D.m s s' ∧ Store D σ' s'.heap ∧ ∃ r t u₁ v, u = .ref r ∧ IsRange s'.heap r 0 n 1 t u₁ v) E s
/-- for x in range(e) -/
theorem Ex1.forR {x : Str} {px pos : Pos} {iter : Expr} {body : List Stmt} {n : Nat} {Φ : Out → Rho → List Val → Prop} (J : Nat → Rho → List Val → Prop) (hi : EvR w k env D ρ σ iter n σ₁) (hn : n ≤ 1000000) (h0 : J 0 ρ σ₁)
    (turn : ∀ i ρ' σ', i < n → J i ρ' σ' → Ex w k env D ((x, .int (i : Int)) :: ρ') σ' body (LoopΦ (J (i + 1)) Φ))
    (done : ∀ ρ' σ', J n ρ' σ' → Φ .next ρ' σ')
    (hx : env.kindOf x = some .local ∨ env.kindOf x = some .cell ∧ (env.cells.lookup x).isSome = true)
    (hs : ∀ x, foldedSetIterable iter env x = pure x) : Ex1 w k env D ρ σ (.For (.Name x px) iter body [] pos) Φ := fun A E s B hA S => by
  refine wpAny_For (wpAny_mono (hi A E s B hA S) (fun u s₁ h => ?_) fun _ _ e => e) hs
  obtain ⟨p₁, st₁, r, t, u₁, v₁, rfl, hr⟩ := h
  have S₁ := S.step p₁ st₁
  have K₁ := p₁.keptS S st₁
  obtain ⟨h₁, t₁, rfl, _⟩ := p₁
  refine wpAny_pyIter_range hr (small_one (by lia) (by omega) (by lia) (by omega)) ?_
  have hI0 : h₁.get? h₁.objs.size = none := fresh_none (Nat.le_refl _)
  have hsz : Builtin.Range.rangeSize 0 n 1 = (n : Int) - ((0 : Nat) : Int) := by
    rw [rangeSize_one]; split <;> lia
  have k0 : ∀ b o, h₁.get? b = some o → (h₁.push { cls := .type "range_iterator", data := .fields #[rawInt 0, rawInt (Builtin.Range.rangeSize 0 n 1), rawInt 1] }).get? b = some o := fun b o e => Heap.get?_push_of_some _ e
  refine forLoop_src (s := s) J (Src.range (I := h₁.objs.size) (n := n)) hA (S₁.of_all k0) (K₁.trans (.of_all k0)) (K₁.retNone hI0) (S₁.freshB hI0) (fun q => S₁.store.1 _ q hI0)
    ?_ h0 (fun i v ρ' σ' hv hJ => ?_) (fun ρ' σ' hJ => done ρ' σ' (by rwa [rangeV_len] at hJ)) hx (fun f s' x => x)
  · rw [hsz]; exact Heap.get?_push_size _ rfl
  · obtain ⟨h1, rfl⟩ := rangeV_get hv
    exact turn i ρ' σ' h1 hJ
theorem EvR.of {x : Str} {np pos : Pos} {e : Expr} {n : Nat} (hf : IsBi w x (.type "range")) (ha : Ev w k env D ρ σ e (.int (n : Int)) σ₁)
    (hx : env.kindOf x = some .globalImplicit) (he : starEach [e] env = (false, eval e env) :: starEach [] env)
    (hd : (x == ("__debug__" : Str)) = false) : EvR w k env D ρ σ (.Call (.Name x np) [e] [] pos) n σ₁ := by
  intro A E s B hA S
  refine Call_ (name_bi S hx hf hd ?_) (by with_unfolding_all rfl)
  refine PyProof.Rows.callWith_type1 ?_ he rfl
  rw [he]
  refine spliced_cons (seq ha hA S fun u s₁ p₁ ⟨t, e'⟩ S₁ => ?_)
  subst e'
  refine spliced_nil (call_range_1 ?_)
  exact ⟨p₁.trans .push, S₁.store.kept fun b o e => Heap.get?_push_of_some _ e, _, _, _, _, rfl, IsRange.new ..⟩
end
end

section
open PySem PySem.Spec PySem.Calls PySem.W PyProof.Rows
section
variable {w : World} {k : Nat} {B : Heap} {env : Env} {D : Dm} {ρ : Rho} {σ σ₁ σ₂ σ₃ : List Val}

/-! tuples taken apart -/
noncomputable abbrev NameOk (env : Env) (x : Str) : Prop := env.kindOf x = some .local ∨ env.kindOf x = some .cell ∧ (env.cells.lookup x).isSome = true

theorem store2 {a b : Str} {va vb : Val} {ua ub : Value} {A : Around} {E : Value → Shared → Prop} {s : Shared} {Q : Unit → Shared → Prop} {ta tb : Value → Sem Unit}
    (S : St w B env D ρ σ s.heap) (ha : NameOk env a) (hb : NameOk env b) (ra : Rep D s.heap va ua) (rb : Rep D s.heap vb ub)
    (fa : ∀ (A : Around) (E : Value → Shared → Prop) (s : Shared) (Q : Unit → Shared → Prop), wpAny (model PGm w) A (storeName env a ua) Q E s → wpAny (model PGm w) A (ta ua) Q E s)
    (fb : ∀ (A : Around) (E : Value → Shared → Prop) (s : Shared) (Q : Unit → Shared → Prop), wpAny (model PGm w) A (storeName env b ub) Q E s → wpAny (model PGm w) A (tb ub) Q E s)
    (h : ∀ h' tk, St w B env D ((b, vb) :: (a, va) :: ρ) σ h' → KeptS env D s.heap h' → Q () { s with heap := h', toks := tk }) : wpAny (model PGm w) A (assignInOrder [ta, tb] [ua, ub]) Q E s := by
  refine wpAny_assignInOrder_more (fa _ _ _ _ (store S ha ra fun h₁ t₁ S₁ K₁ => ?_))
  refine wpAny_assignInOrder_more (fb _ _ _ _ (store (s := { s with heap := h₁, toks := t₁ }) S₁ hb (K₁.rep S rb) fun h₂ t₂ S₂ K₂ => ?_))
  exact wpAny_assignInOrder_none (h h₂ t₂ S₂ (K₁.trans K₂))
theorem store3 {a b c : Str} {va vb vc : Val} {ua ub uc : Value} {A : Around} {E : Value → Shared → Prop} {s : Shared} {Q : Unit → Shared → Prop} {ta tb tc : Value → Sem Unit}
    (S : St w B env D ρ σ s.heap) (ha : NameOk env a) (hb : NameOk env b) (hc : NameOk env c) (ra : Rep D s.heap va ua) (rb : Rep D s.heap vb ub) (rc : Rep D s.heap vc uc)
    (fa : ∀ (A : Around) (E : Value → Shared → Prop) (s : Shared) (Q : Unit → Shared → Prop), wpAny (model PGm w) A (storeName env a ua) Q E s → wpAny (model PGm w) A (ta ua) Q E s)
    (fb : ∀ (A : Around) (E : Value → Shared → Prop) (s : Shared) (Q : Unit → Shared → Prop), wpAny (model PGm w) A (storeName env b ub) Q E s → wpAny (model PGm w) A (tb ub) Q E s)
    (fc : ∀ (A : Around) (E : Value → Shared → Prop) (s : Shared) (Q : Unit → Shared → Prop), wpAny (model PGm w) A (storeName env c uc) Q E s → wpAny (model PGm w) A (tc uc) Q E s)
    (h : ∀ h' tk, St w B env D ((c, vc) :: (b, vb) :: (a, va) :: ρ) σ h' → KeptS env D s.heap h' → Q () { s with heap := h', toks := tk }) : wpAny (model PGm w) A (assignInOrder [ta, tb, tc] [ua, ub, uc]) Q E s := by
  refine wpAny_assignInOrder_more (fa _ _ _ _ (store S ha ra fun h₁ t₁ S₁ K₁ => ?_))
  refine store2 (s := { s with heap := h₁, toks := t₁ }) S₁ hb hc (K₁.rep S rb) (K₁.rep S rc) fb fc fun h₂ t₂ S₂ K₂ => ?_
  exact h h₂ t₂ S₂ (K₁.trans K₂)

/-- a, b = f(..) -/
theorem Ex1.unpack2 {a b : Str} {pa pb tp pos : Pos} {kd : Nat} {e : Expr} {va vb : Val} {Φ : Out → Rho → List Val → Prop} (he : Ev w k env D ρ σ e (.tup [va, vb]) σ₁) (h : Φ .next ((b, vb) :: (a, va) :: ρ) σ₁)
    (ha : NameOk env a)
    (hb : NameOk env b)
    (hs : swapsWithSole [.Tuple [.Name a pa, .Name b pb] kd tp] e pos.line env = pure false)
    (hw : swappedStores [.Tuple [.Name a pa, .Name b pb] kd tp] e env = pure .none)
    (hE : assignEach [.Name a pa, .Name b pb] env = [(false, PySem.assign (.Name a pa) env), (false, PySem.assign (.Name b pb) env)]) :
    Ex1 w k env D ρ σ (.Assign [.Tuple [.Name a pa, .Name b pb] kd tp] e pos) Φ := fun A E s B hA S => by
  refine Assign_Tuple (seq he hA S fun u s₁ p r S₁ => ?_) hs hw
  obtain ⟨t, us, rfl, hn, hT, hr⟩ := r
  obtain ⟨ua, r', rfl, ra, ub, r'', rfl, rb, e3⟩ := hr
  cases e3
  refine wpAny_assign_Tuple hA.1 hT (by rw [hE]; rfl) (by rw [hE]; rfl) (fun h₂ hx => ?_)
  rw [hE]
  have k0 : ∀ b o, s₁.heap.get? b = some o → h₂.get? b = some o := fun b o e => hx b o (Nat.ne_of_lt (Heap.lt_size e)) e
  refine store2 (s := { s₁ with heap := h₂ }) (S₁.of_all k0) ha hb (ra.kept (.of_all k0)) (rb.kept (.of_all k0)) (fun _ _ _ _ q => wpAny_assign_Name q) (fun _ _ _ _ q => wpAny_assign_Name q) fun h₃ t₃ S₃ K₃ => ?_
  have K₁ := p.keptS S S₁.store
  obtain ⟨h₁, t₁, rfl, _⟩ := p
  exact ⟨h₃, t₃, .next, _, σ₁, rfl, (K₁.trans (.of_all k0)).trans K₃, True.intro, S₃.store, fun _ => S₃, h⟩
/-- a, b, c = f(..) -/
theorem Ex1.unpack3 {a b c : Str} {pa pb pc tp pos : Pos} {kd : Nat} {e : Expr} {va vb vc : Val} {Φ : Out → Rho → List Val → Prop} (he : Ev w k env D ρ σ e (.tup [va, vb, vc]) σ₁) (h : Φ .next ((c, vc) :: (b, vb) :: (a, va) :: ρ) σ₁)
    (ha : NameOk env a)
    (hb : NameOk env b)
    (hc : NameOk env c)
    (hs : swapsWithSole [.Tuple [.Name a pa, .Name b pb, .Name c pc] kd tp] e pos.line env = pure false)
    (hw : swappedStores [.Tuple [.Name a pa, .Name b pb, .Name c pc] kd tp] e env = pure .none)
    (hE : assignEach [.Name a pa, .Name b pb, .Name c pc] env = [(false, PySem.assign (.Name a pa) env), (false, PySem.assign (.Name b pb) env), (false, PySem.assign (.Name c pc) env)]) :
    Ex1 w k env D ρ σ (.Assign [.Tuple [.Name a pa, .Name b pb, .Name c pc] kd tp] e pos) Φ := fun A E s B hA S => by
  refine Assign_Tuple (seq he hA S fun u s₁ p r S₁ => ?_) hs hw
  obtain ⟨t, us, rfl, hn, hT, hr⟩ := r
  obtain ⟨ua, r', rfl, ra, ub, r'', rfl, rb, uc, r3, rfl, rc, e3⟩ := hr
  cases e3
  refine wpAny_assign_Tuple hA.1 hT (by rw [hE]; rfl) (by rw [hE]; rfl) (fun h₂ hx => ?_)
  rw [hE]
  have k0 : ∀ b o, s₁.heap.get? b = some o → h₂.get? b = some o := fun b o e => hx b o (Nat.ne_of_lt (Heap.lt_size e)) e
  refine store3 (s := { s₁ with heap := h₂ }) (S₁.of_all k0) ha hb hc (ra.kept (.of_all k0)) (rb.kept (.of_all k0)) (rc.kept (.of_all k0)) (fun _ _ _ _ q => wpAny_assign_Name q) (fun _ _ _ _ q => wpAny_assign_Name q) (fun _ _ _ _ q => wpAny_assign_Name q) fun h₃ t₃ S₃ K₃ => ?_
  have K₁ := p.keptS S S₁.store
  obtain ⟨h₁, t₁, rfl, _⟩ := p
  exact ⟨h₃, t₃, .next, _, σ₁, rfl, (K₁.trans (.of_all k0)).trans K₃, True.intro, S₃.store, fun _ => S₃, h⟩
theorem unpackItems2 {t : Addr} {ua ub : Value} {A : Around} {E : Value → Shared → Prop} {s : Shared} {Q : List Value → Shared → Prop} (hh : A.handled = .none) (hT : s.heap.IsTuple t [ua, ub].toArray)
    (hQ : ∀ h', Heap.ExtBut s.heap.objs.size s.heap h' → Q [ua, ub] { s with heap := h' }) : wpAny (model PGm w) A (unpackItems (.ref t) 2 .none) Q E s := by
  have e : 2 = [ua, ub].toArray.size := rfl
  rw [e]
  with_reducible refine wpAny_unpackItems_tuple hh hT (fun h' x => ?_)
  exact hQ h' x
theorem assignStores_two {v : Value} {a b : Str} {stores : List (Value → Sem Unit)} : assignStores env v (some [a, b]) stores = (do
    rule "assign.swapped-stores"
    let items ← unpackItems v 2 .none
    assignInOrder [bindName env b, bindName env a] items.reverse
    pure Flow.next) := rfl
/-- a, b = (x, y): the stores are swapped -/
theorem Ex1.swap2 {a b : Str} {ts : List Expr} {tp pos : Pos} {kd : Nat} {e : Expr} {va vb : Val} {Φ : Out → Rho → List Val → Prop} (he : Ev w k env D ρ σ e (.tup [va, vb]) σ₁) (h : Φ .next ((a, va) :: (b, vb) :: ρ) σ₁)
    (ha : NameOk env a)
    (hb : NameOk env b)
    (hs : swapsWithSole [.Tuple ts kd tp] e pos.line env = pure false)
    (hw : swappedStores [.Tuple ts kd tp] e env = pure (some [a, b])) :
    Ex1 w k env D ρ σ (.Assign [.Tuple ts kd tp] e pos) Φ := fun A E s B hA S => by
  rw [exec_Assign_arm]
  refine wpAny_bind (wpAny_standAt ?_)
  rw [hs]
  refine wpAny_bind (wpAny_pure ?_)
  rw [if_neg (by simp)]
  refine wpAny_bind (seq he hA S fun u s₁ p r S₁ => ?_)
  rw [hw]
  refine wpAny_bind (wpAny_pure ?_)
  obtain ⟨t, us, rfl, hn, hT, hr⟩ := r
  obtain ⟨ua, r', rfl, ra, ub, r'', rfl, rb, e3⟩ := hr
  cases e3
  have hh : A.handled = .none := hA.1
  rw [assignStores_two]
  with_reducible refine wpAny_bind (wpAny_rule ?_)
  with_reducible refine wpAny_bind (unpackItems2 hh hT (fun h₂ hx => ?_))
  have k0 : ∀ b o, s₁.heap.get? b = some o → h₂.get? b = some o := fun b o e => hx b o (Nat.ne_of_lt (Heap.lt_size e)) e
  refine wpAny_bind ?_
  show wpAny _ A (assignInOrder [bindName env b, bindName env a] [ub, ua]) _ _ _
  refine store2 (s := { s₁ with heap := h₂ }) (S₁.of_all k0) hb ha (rb.kept (.of_all k0)) (ra.kept (.of_all k0)) (fun _ _ _ _ q => wpAny_bindName q) (fun _ _ _ _ q => wpAny_bindName q) fun h₃ t₃ S₃ K₃ => ?_
  have K₁ := p.keptS S S₁.store
  obtain ⟨h₁, t₁, rfl, _⟩ := p
  exact wpAny_pure ⟨h₃, t₃, .next, _, σ₁, rfl, (K₁.trans (.of_all k0)).trans K₃, True.intro, S₃.store, fun _ => S₃, h⟩

/-! the mutable list -/
theorem RepL.set {h : Heap} : ∀ {xs : List Val} {us : List Value} {i : Nat} {x : Val} {u : Value}, RepL D h xs us → Rep D h x u → RepL D h (xs.set i x) (us.set i u)
  | [], _, _, _, _, r, _ => by cases r; simp; rfl
  | y :: ys, _, 0, x, u, ⟨u', r, e, h1, h2⟩, q => by subst e; simpa using RepL.cons q h2
  | y :: ys, _, i + 1, x, u, ⟨u', r, e, h1, h2⟩, q => by subst e; simpa using RepL.cons h1 (h2.set q)
theorem RepL.reverse {h : Heap} : ∀ {xs : List Val} {us : List Value}, RepL D h xs us → RepL D h xs.reverse us.reverse
  | [], _, r => by cases r; simp; rfl
  | y :: ys, _, ⟨u', r, e, h1, h2⟩ => by subst e; simpa using h2.reverse.append (.single h1)
/-- the list turned at its place -/
theorem Step.turned {c : Addr} {h' : Heap} {s : Shared} {us : Array Value} {n : Nat} {vs : List Val} {tk : Nat} (hD : D.m = some c) (S : St w B env D ρ σ s.heap) (hs : Heap.SameBut c s.heap h') (g : h'.get? c = some { cls := .type "list", data := .seq us n }) (r : RepL D s.heap vs us.toList) :
    Step D.m s { s with heap := h', toks := tk } ∧ Store D vs h' := by
  have k0 : Kept D.m s.heap h' := fun b o n e => (hs.2 b (fun q => n (by rw [hD, q]))).trans e
  refine ⟨⟨h', tk, rfl, k0⟩, fun a q => ?_, fun c' e => ?_⟩
  · by_cases ha : a = c
    · subst ha; rw [g]; intro z; cases z
    · rw [hs.2 a ha]; exact S.store.1 a q
  · rw [hD] at e; cases e; exact ⟨us, n, g, r.kept k0⟩
theorem Ev.append {o e : Expr} {apos pos : Pos} {v : Val} (ho : Ev w k env D ρ σ o .cell σ₁) (he : Ev w k env D ρ σ₁ e v σ₂) (hz : σ₂.length ≤ 1000000)
    (hbase : attributeBase o "append" env (eval o env) = eval o env)
    (hfew : ((backTo pos (starEach [e] env)).all (fun x => !x.1) && (backToKw pos (keywordEach [] env)).all (fun x => x.1.isSome)
      && decide ([e].length + ([] : List Keyword).length + (if ([] : List Keyword).isEmpty then 0 else 1) < 30)) = true)
    (hline : (apos.endLine == pos.line) = true) (ht : backTo pos (starEach [e] env) = [(false, eval e env)]) :
    Ev w k env D ρ σ (.Call (.Attribute o "append" apos) [e] [] pos) .none (σ₂ ++ [v]) := by
  intro A E s B hA S
  refine wpAny_Call_append hbase hfew hline ht (seq ho hA S fun u s₁ p₁ ⟨c, hc, hu⟩ S₁ => ?_)
  subst hu
  obtain ⟨us, n, g, r⟩ := S₁.store.cell hc
  refine ⟨c, us, rfl, ⟨_, n, g, rfl, rfl, rfl⟩, seq he hA S₁ fun u s₂ p₂ ru S₂ => ?_⟩
  obtain ⟨us₂, n₂, g₂, r₂⟩ := S₂.store.cell hc
  have hl := r₂.length
  refine wpAny_list_append_plain ⟨n₂, g₂⟩ (fun h' ⟨n', g'⟩ hs => ?_) (by rw [← Array.length_toList, hl, sizeLine_eq]; lia)
  obtain ⟨a, b⟩ := Step.turned (tk := s₂.toks) hc S₂ hs g' (vs := σ₂ ++ [v]) (by simpa using r₂.append (.single ru))
  exact ⟨p₁.trans (p₂.trans a), rfl, b⟩
theorem Ev.reverse {o : Expr} {apos pos : Pos} (ho : Ev w k env D ρ σ o .cell σ₁) (hz : σ₁.length ≤ 1000000)
    (hbase : attributeBase o "reverse" env (eval o env) = eval o env)
    (hfew : ((backTo pos (starEach [] env)).all (fun x => !x.1) && (backToKw pos (keywordEach [] env)).all (fun x => x.1.isSome)
      && decide (([] : List Expr).length + ([] : List Keyword).length + (if ([] : List Keyword).isEmpty then 0 else 1) < 30)) = true)
    (hline : (apos.endLine == pos.line) = true) :
    Ev w k env D ρ σ (.Call (.Attribute o "reverse" apos) [] [] pos) .none σ₁.reverse := by
  intro A E s B hA S
  refine wpAny_Call_method hbase hfew hline F.plainAttrs_list PySem.F.slot_list_reverse PySem.F.type_list_reverse (seq ho hA S fun u s₁ p₁ ⟨c, hc, hu⟩ S₁ => ?_)
  subst hu
  obtain ⟨us, n, g, r⟩ := S₁.store.cell hc
  have hl := r.length
  refine ⟨⟨_, g, rfl⟩, fun a q => by cases q; exact ⟨_, g, rfl⟩, callWith_method0 ?_⟩
  refine call_meets PySem.F.slot_list_reverse ⟨_, g, rfl⟩ PySem.F.entry_list_reverse (PySem.F.args_list_reverse_1 _) (PySem.AutoSeq1.list_reverse_list_0 c us n (by rw [← Array.length_toList, hl, sizeLine_eq]; omega)) ⟨g, ?_⟩
  have q := PySem.IsL.update g (fun x => x.reverse)
  obtain ⟨a, b⟩ := Step.turned (tk := s₁.toks) hc S₁ (Heap.SameBut.update ..) q (vs := σ₁.reverse) (by simpa using r.reverse)
  exact ⟨p₁.trans a, rfl, b⟩
/-- xs[i] = v -/
theorem setM {c : Addr} {u : Value} {n : Int} {t : Tok} {v : Val} {A : Around} {E : Value → Shared → Prop} {s : Shared} {Q : Unit → Shared → Prop} (hD : D.m = some c) (S : St w B env D ρ σ s.heap) (r : Rep D s.heap v u) (h0 : 0 ≤ n) (h1 : n < σ.length) (hz : σ.length ≤ 1000000)
    (h : ∀ s', Step D.m s s' → St w B env D ρ (σ.set n.toNat v) s'.heap → Q () s') : wpAny (model PGm w) A (setItem (.ref c) (.int n t) u) Q E s := by
  obtain ⟨us, m, g, rs⟩ := S.store.cell hD
  have hl := rs.length
  rw [Array.length_toList] at hl
  refine ki_setAt g h0 (by lia) (by lia) ?_
  have q := PySem.IsL.update g (·.setIfInBounds n.toNat u)
  obtain ⟨a, b⟩ := Step.turned (tk := s.toks) hD S (Heap.SameBut.update ..) q (vs := σ.set n.toNat v) (by simpa using rs.set r)
  exact h _ a (S.step a b)
theorem Ex1.setM {o i e : Expr} {p' pos : Pos} {n : Int} {v : Val} {Φ : Out → Rho → List Val → Prop} (he : Ev w k env D ρ σ e v σ₁) (ho : Ev w k env D ρ σ₁ o .cell σ₂) (hi : Ev w k env D ρ σ₂ i (.int n) σ₃) (h0 : 0 ≤ n) (h1 : n < σ₃.length) (hz : σ₃.length ≤ 1000000)
    (h : Φ .next ρ (σ₃.set n.toNat v)) (hs : swapsWith e (some (.Subscript o i p')) pos.line env = pure false) : Ex1 w k env D ρ σ (.Assign [.Subscript o i p'] e pos) Φ := fun A E s B hA S => by
  refine wpAny_Assign_Subscript (seq he hA S fun u s₁ p₁ r₁ S₁ => seq ho hA S₁ fun uo s₂ p₂ ⟨c, hc, hu⟩ S₂ => seq hi hA S₂ fun ui s₃ p₃ ⟨t, e'⟩ S₃ => ?_) hs
  subst hu e'
  refine Mine.setM hc S₃ ((r₁.kept p₂.heap).kept p₃.heap) h0 h1 hz fun s₄ p₄ S₄ => ?_
  have p := p₁.trans (p₂.trans (p₃.trans p₄))
  have K := p.keptS S S₄.store
  obtain ⟨h₄, t₄, rfl, _⟩ := p
  exact ⟨h₄, t₄, .next, _, _, rfl, K, True.intro, S₄.store, fun _ => S₄, h⟩
end
end

section
open PySem PySem.Spec PySem.Calls PySem.W PyProof.Rows
section
variable {w : World} {k : Nat} {B : Heap} {env : Env} {D : Dm} {ρ : Rho} {σ σ₁ σ₂ σ₃ : List Val}

/-- xs[i] op= e on the mutable list's ints -/
theorem Ex1.augM {o i e : Expr} {p' pos : Pos} {op : Operator} {n a b r : Int} {Φ : Out → Rho → List Val → Prop} (ho : Ev w k env D ρ σ o .cell σ) (hi : Ev w k env D ρ σ i (.int n) σ) (h0 : 0 ≤ n) (hx : σ[n.toNat]? = some (.int a)) (he : Ev w k env D ρ σ e (.int b) σ) (hop : Inp w op a b r) (hz : σ.length ≤ 1000000)
    (h : Φ .next ρ (σ.set n.toNat (.int r))) (ha : ∀ ov iv new, augStore i ov iv new = (do holding [new, ov, iv] (setItem ov iv new); release [new, ov, iv] []; pure .next)) :
    Ex1 w k env D ρ σ (.AugAssign (.Subscript o i p') op e pos) Φ := fun A E s B hA S => by
  refine wpAny_AugAssign_SubscriptAny (seq ho hA S fun uo s₁ p₁ ⟨c, hc, hu⟩ S₁ => seq hi hA S₁ fun ui s₂ p₂ ⟨t, e'⟩ S₂ => ?_) ha
  subst hu e'
  obtain ⟨us, m, g, r₂⟩ := S₂.store.cell hc
  obtain ⟨u, hu, tu, eu⟩ := r₂.get hx
  subst eu
  have hlt : n.toNat < σ.length := by
    rcases Nat.lt_or_ge n.toNat σ.length with q | q
    · exact q
    · rw [List.getElem?_eq_none q] at hx; cases hx
  have hT : s₂.heap.IsList c us := ⟨_, g, rfl, m, rfl⟩
  refine wpAny_getItem_list hT h0 (by lia) (by simpa using hu) ?_
  refine seq he hA S₂ fun ue s₃ p₃ ⟨t', e'⟩ S₃ => ?_
  subst e'
  refine wpAny_mono (hop A E s₃ tu t') (fun y s₄ ⟨tk, t'', e1, e2⟩ => ?_) fun _ _ e => e
  subst e1 e2
  refine Mine.setM (s := { s₃ with toks := tk }) (v := .int r) hc S₃ ⟨_, rfl⟩ h0 (by omega) hz fun s₅ p₅ S₅ => ?_
  have p := p₁.trans (p₂.trans (p₃.trans (Step.trans (.tok (n := tk)) p₅)))
  have K := p.keptS S S₅.store
  obtain ⟨h₅, t₅, rfl, _⟩ := p
  exact ⟨h₅, t₅, .next, _, _, rfl, K, True.intro, S₅.store, fun _ => S₅, h⟩

/-! a new list that is to be turned -/
noncomputable def Val.sc : Val → Bool
  | .none | .bool _ | .int _ | .str _ => true
  | _ => false
noncomputable def Val.scc : Val → Bool
  | .none | .bool _ | .int _ | .str _ | .cell => true
  | _ => false
noncomputable def fz (σ : List Val) : Val → Val
  | .cell => .list σ
  | v => v
theorem Rep.sc {D D' : Dm} {h h' : Heap} {v : Val} {u : Value} (hv : v.sc = true) (r : Rep D h v u) : Rep D' h' v u := by
  cases v <;> first | exact r | cases hv
theorem RepL.sc {D D' : Dm} {h h' : Heap} : ∀ {vs : List Val} {us : List Value}, vs.all Val.sc = true → RepL D h vs us → RepL D' h' vs us
  | [], _, _, r => r
  | v :: vs, _, hv, ⟨u, r, e, h1, h2⟩ => by
    simp only [List.all_cons, Bool.and_eq_true] at hv
    exact ⟨u, r, e, h1.sc hv.1, h2.sc hv.2⟩
noncomputable def FrzΦ (Φ : Out → Rho → List Val → Prop) : Out → Rho → List Val → Prop
  | .ret v, _, σ' => (v = .cell → σ'.all Val.sc = true) ∧ v.scc = true ∧ Φ (.ret (fz σ' v)) [] []
  | .retNew vs, _, σ' => σ'.all Val.sc = true ∧ vs.all Val.scc = true ∧ Φ (.retNew (vs.map (fz σ'))) [] []
  | _, _, _ => False
theorem frz_rep {ex : List Addr} {c : Addr} {h : Heap} {σ : List Val} {v : Val} {u : Value} (hσ : v = .cell → σ.all Val.sc = true) (hv : v.scc = true) (hc : c ∉ ex) (st : Store ⟨some c, ex⟩ σ h) (r : Rep ⟨some c, ex⟩ h v u) : Rep ⟨.none, ex⟩ h (fz σ v) u := by
  cases v with
  | cell =>
    obtain ⟨c', q, e⟩ := r
    cases q
    subst e
    obtain ⟨us, n, g, r'⟩ := st.cell rfl
    exact ⟨c, us.toList, rfl, ⟨(fun q => by cases q), hc⟩, ⟨_, g, rfl, n, by simp⟩, r'.sc (hσ rfl)⟩
  | tup xs => cases hv
  | list xs => cases hv
  | none => exact r
  | bool b => exact r
  | int i => exact r
  | str x => exact r
theorem frz_repL {ex : List Addr} {c : Addr} {h : Heap} {σ : List Val} (hσ : σ.all Val.sc = true) (hc : c ∉ ex) (st : Store ⟨some c, ex⟩ σ h) : ∀ {vs : List Val} {us : List Value}, vs.all Val.scc = true → RepL ⟨some c, ex⟩ h vs us → RepL ⟨.none, ex⟩ h (vs.map (fz σ)) us
  | [], _, _, r => r
  | v :: vs, _, hv, ⟨u, r, e, h1, h2⟩ => by
    simp only [List.all_cons, Bool.and_eq_true] at hv
    exact ⟨u, r, e, frz_rep (fun _ => hσ) hv.1 hc st h1, frz_repL hσ hc st hv.2 h2⟩
theorem St.takeM {ex : List Addr} {c : Addr} {h h' : Heap} {us : Array Value} {n : Nat} {σ₀ : List Val} (S : St w B env ⟨.none, ex⟩ ρ [] h) (k0 : ∀ b o, h.get? b = some o → h'.get? b = some o) (hc : h.get? c = none)
    (g : h'.get? c = some { cls := .type "list", data := .seq us n }) (r : RepL ⟨some c, ex⟩ h' σ₀ us.toList) : St w B env ⟨some c, ex⟩ ρ σ₀ h' := by
  have S' := S.of_all k0
  have hB := S.freshB hc
  refine ⟨S.frame, fun y v e => ?_, S.ground, S'.fr, fun c' e => by cases e; exact hB, S.newC, S'.cells, ⟨fun a q => live_of_all k0 (S.store.1 a q), fun c' e => by cases e; exact ⟨us, n, g, r⟩⟩⟩
  obtain ⟨u', a', b'⟩ := S.names y v e
  exact ⟨u', a'.kept fun b o e _ => k0 b o e, b'.newD k0 hc⟩
theorem retKind {o : Out} (h : (∃ v, o = .ret v) ∨ ∃ v, o = .retNew v) {P : Prop} (q : o = .next ∨ o = .brk ∨ o = .cont) : P := by
  rcases h with ⟨v, rfl⟩ | ⟨v, rfl⟩ <;> rcases q with q | q | q <;> cases q
theorem mut_rest {ex : List Addr} {c : Addr} {x : Str} {σ₀ : List Val} {rest : List Stmt} {Φ : Out → Rho → List Val → Prop} {A : Around} {E : Value → Shared → Prop} {s : Shared} {h₂ : Heap} {t₂ : Nat} {Q : Unit → Shared → Prop}
    (hA : AOk k A) (S₂ : St w B env ⟨some c, ex⟩ ρ σ₀ h₂) (K₂ : KeptS env ⟨.none, ex⟩ s.heap h₂) (hcs : s.heap.get? c = none) (hex : c ∉ ex) (hx : NameOk env x)
    (h : Ex w k env ⟨some c, ex⟩ ((x, .cell) :: ρ) σ₀ rest (FrzΦ Φ))
    (hQ : ∀ s₃, wpAny (model PGm w) A (execs rest env) (ExPost w B env ⟨.none, ex⟩ Φ s) E s₃ → Q () s₃) : wpAny (model PGm w) A (storeName env x (.ref c)) Q E { s with heap := h₂, toks := t₂ } := by
  refine store (s := { s with heap := h₂, toks := t₂ }) (D := ⟨some c, ex⟩) (v := .cell) S₂ hx ⟨c, rfl, rfl⟩ fun h₃ t₃ S₃ K₃ => hQ _ ?_
  refine wpAny_mono (h A _ _ B hA S₃) (fun f s' x => ?_) fun _ _ e => e
  obtain ⟨h', tk, o, ρ', σ', rfl, K, r, st, S', hΦ⟩ := x
  have KK := K₃.trans K
  have K' : KeptS env ⟨.none, ex⟩ s.heap h' :=
    ⟨fun b o n1 n2 n3 e => KK.1 b o n1 (fun q => by cases q; rw [hcs] at e; cases e) n3 (K₂.1 b o n1 n2 n3 e), fun b e => KK.2 b (K₂.2 b e)⟩
  have stN : Store ⟨.none, ex⟩ [] h' := ⟨st.1, fun _ e => by cases e⟩
  cases f <;> cases o <;> first | exact r.elim | exact hΦ.elim | skip
  · obtain ⟨h1, h2, h3⟩ := hΦ
    exact ⟨h', tk, .ret _, [], [], rfl, K', frz_rep h1 h2 hex st r, stN, retKind (.inl ⟨_, rfl⟩), h3⟩
  · obtain ⟨h1, h2, h3⟩ := hΦ
    obtain ⟨a, us, n, e1, e2, e3, e4, e5⟩ := r
    exact ⟨h', tk, .retNew _, [], [], rfl, K', ⟨a, us, n, e1, K₂.retNone (K₃.retNone e2), ⟨(fun q => by cases q), e3.2⟩, e4, frz_repL h1 hex st h2 e5⟩, stN, retKind (.inr ⟨_, rfl⟩), h3⟩
theorem Ex.newmut {ex : List Addr} {x : Str} {px lp pos : Pos} {rest : List Stmt} {Φ : Out → Rho → List Val → Prop} (h : ∀ c, Ex w k env ⟨some c, ex⟩ ((x, .cell) :: ρ) [] rest (FrzΦ Φ))
    (hx : NameOk env x)
    (hs : swapsWith (.List [] lp) (some (.Name x px)) pos.line env = pure false) : Ex w k env ⟨.none, ex⟩ ρ [] (.Assign [.Name x px] (.List [] lp) pos :: rest) Φ := fun A E s B hA S => by
  have h0 : s.heap.get? s.heap.objs.size = none := fresh_none (Nat.le_refl _)
  have k0 : ∀ b o, s.heap.get? b = some o → (s.heap.push { cls := .type "list", data := .seq ([] : List Value).toArray }).get? b = some o := fun b o e => Heap.get?_push_of_some _ e
  refine wpAny_execs_cons (wpAny_Assign_Name (wpAny_List_spliced (spliced_nil ⟨Nat.zero_le _, ?_⟩)) hs)
  exact mut_rest (s := s) hA (S.takeM (σ₀ := []) k0 h0 (Heap.get?_push_size _ rfl) rfl) (.of_all k0) h0 (fun q => S.store.1 _ q h0) hx (h _) (fun s₃ q => q)
end
end

section
open PySem PySem.Spec PySem.Calls PySem.W PyProof.Rows
section
variable {w : World} {k : Nat} {B : Heap} {env : Env} {D : Dm} {ρ : Rho} {σ σ₁ σ₂ σ₃ : List Val}

theorem bindL_notin {kd : Str → Option NameKind} : ∀ {binds : List (Str × Value)} {m : Str → Option Value} {x : Str}, (∀ p ∈ binds, p.1 ≠ x) → bindL kd binds m x = m x
  | [], _, _, _ => rfl
  | (n, v) :: r, m, x, h => by
    unfold bindL
    rw [bindL_notin fun p hp => h p (.tail _ hp)]
    split
    · exact if_neg (fun q => h _ (.head _) q.symm)
    · rfl
theorem bindC_notin {kd : Str → Option NameKind} : ∀ {binds : List (Str × Value)} {m : Str → Option Value} {x : Str}, (∀ p ∈ binds, p.1 ≠ x) → bindC kd binds m x = m x
  | [], _, _, _ => rfl
  | (n, v) :: r, m, x, h => by
    unfold bindC
    rw [bindC_notin fun p hp => h p (.tail _ hp)]
    split
    · rfl
    · exact if_neg (fun q => h _ (.head _) q.symm)
theorem nodup_tail_ne {p : Str × Value} {r : List (Str × Value)} (h : ((p :: r).map (·.1)).Nodup) : ∀ q ∈ r, q.1 ≠ p.1 := by
  rw [List.map_cons, List.nodup_cons] at h
  exact fun q hq e => h.1 (e ▸ List.mem_map_of_mem hq)
theorem bindL_mem {kd : Str → Option NameKind} : ∀ {binds : List (Str × Value)} {m : Str → Option Value} {x : Str} {u : Value}, (binds.map (·.1)).Nodup → (x, u) ∈ binds → kd x = some .local → bindL kd binds m x = some u
  | (n, v) :: r, m, x, u, hn, hm, hk => by
    have ht := nodup_tail_ne hn
    rw [List.map_cons, List.nodup_cons] at hn
    unfold bindL
    rcases List.mem_cons.mp hm with e | hm
    · cases e
      rw [bindL_notin ht, if_pos hk]
      simp
    · exact bindL_mem hn.2 hm hk
theorem bindC_mem {kd : Str → Option NameKind} : ∀ {binds : List (Str × Value)} {m : Str → Option Value} {x : Str} {u : Value}, (binds.map (·.1)).Nodup → (x, u) ∈ binds → kd x ≠ some .local → bindC kd binds m x = some u
  | (n, v) :: r, m, x, u, hn, hm, hk => by
    have ht := nodup_tail_ne hn
    rw [List.map_cons, List.nodup_cons] at hn
    unfold bindC
    rcases List.mem_cons.mp hm with e | hm
    · cases e
      rw [bindC_notin ht, if_neg hk]
      simp
    · exact bindC_mem hn.2 hm hk
theorem cells_apart : ∀ {cs : List (Str × Addr)}, List.Pairwise (fun x y => x.2 ≠ y.2) cs → ∀ x y c, cs.lookup x = some c → cs.lookup y = some c → x = y
  | [], _, _, _, _, e, _ => by cases e
  | (n, a) :: r, h, x, y, c, e1, e2 => by
    rw [List.pairwise_cons] at h
    have mem : ∀ z, r.lookup z = some c → ∃ p ∈ r, p.2 = c := fun z e => by
      clear e1 e2 h
      induction r with
      | nil => cases e
      | cons p r ih =>
        obtain ⟨n', a'⟩ := p
        rw [List.lookup_cons] at e
        split at e
        · cases e; exact ⟨_, .head _, rfl⟩
        · obtain ⟨q, hq, hc⟩ := ih e; exact ⟨q, .tail _ hq, hc⟩
    rw [List.lookup_cons] at e1 e2
    cases h1 : x == n <;> cases h2 : y == n <;> rw [h1] at e1 <;> rw [h2] at e2
    · exact cells_apart h.2 x y c e1 e2
    · cases e2
      obtain ⟨p, hp, hc⟩ := mem x e1
      exact absurd hc.symm (h.1 p hp)
    · cases e1
      obtain ⟨p, hp, hc⟩ := mem y e2
      exact absurd hc.symm (h.1 p hp)
    · exact (beq_iff_eq.mp h1).trans (beq_iff_eq.mp h2).symm
theorem lookup_mem : ∀ {cs : List (Str × Addr)} {x : Str} {c : Addr}, cs.lookup x = some c → (x, c) ∈ cs
  | (n, a) :: r, x, c, e => by
    rw [List.lookup_cons] at e
    split at e
    · rename_i h; cases e; rw [beq_iff_eq.mp h]; exact .head _
    · exact .tail _ (lookup_mem e)
theorem zip_lookup {h : Heap} : ∀ {ps : List Str} {vs : List Val} {us : List Value} {x : Str} {v : Val}, RepL D h vs us → (ps.zip vs).lookup x = some v → ∃ u, (x, u) ∈ ps.zip us ∧ Rep D h v u
  | [], _, _, _, _, _, e => by cases e
  | p :: ps, [], _, _, _, _, e => by cases e
  | p :: ps, y :: ys, _, x, v, ⟨u, r, q, h1, h2⟩, e => by
    subst q
    rw [List.zip_cons_cons, List.lookup_cons] at e
    rw [List.zip_cons_cons]
    split at e
    · rename_i hx; cases e; rw [beq_iff_eq.mp hx]; exact ⟨u, .head _, h1⟩
    · obtain ⟨u', hu, hr⟩ := zip_lookup h2 e
      exact ⟨u', .tail _ hu, hr⟩
theorem zip_names : ∀ {ps : List Str} {us : List Value}, us.length = ps.length → (ps.zip us).map (·.1) = ps
  | [], _, _ => rfl
  | p :: ps, [], h => by cases h
  | p :: ps, u :: us, h => by rw [List.zip_cons_cons, List.map_cons, zip_names (Nat.succ.inj h)]

/-- what a def hands back -/
noncomputable def RetΦ (r : Val) (σf : List Val) : Out → Rho → List Val → Prop
  | .ret v, _, σ' => v = r ∧ σ' = σf
  | .retNew vs, _, σ' => Val.list vs = r ∧ σ' = σf
  | _, _, _ => False

section
variable {name qual : Str} {params : Arguments} {body : List Stmt} {scope : Scope} {dV kV doc pm cdv ct oc : Value} {an od : Option Addr} {osl : Array (Option Value)} {f : Addr}
theorem codeAny_cells_b {prog : Program} {w : World} {A : Around} {s : Shared} {R : Result → Shared → Prop} {a : Addr} {o : Obj} {fd : FuncData} {body : List Stmt} {vals : List Value} {binds : List (Str × Value)}
    (hroom : A.depth < recursionLimit) (ho : s.heap.get? a = some o) (hdata : o.data = .func fd) (hlim : s.heap.NoLimit) (hcd : s.heap.CodeRec fd.code fd.qualname)
    (hbody : fd.body = .stmts body) (hbind : BindsTo s fd ⟨vals, []⟩ binds) (hclo : fd.closure = [])
    (hkind : ∀ x ∈ binds, fd.scope.names.lookup x.1 = some .local ∨ (fd.scope.names.lookup x.1 = some .cell ∧ ((cellsFrom (s.heap.objs.size + 1) fd.scope.names []).lookup x.1).isSome = true))
    (h : ∀ s₁, InCallC s (callEnvC fd s.heap.objs.size a).locals (bindL (callEnvC fd s.heap.objs.size a).kindOf binds fun _ => .none) (callEnvC fd s.heap.objs.size a).cells
        (bindC (callEnvC fd s.heap.objs.size a).kindOf binds fun _ => .none) s₁ →
      wpAny (model prog w) (A.deeper (callEnvC fd s.heap.objs.size a)) (execs body (callEnvC fd s.heap.objs.size a)) (fun f s' => R (.ok (.ret (match f with | .ret v => v | _ => .none))) s')
        (fun e s' => wpAny (model prog w) (A.deeper (callEnvC fd s.heap.objs.size a)) (leaving (callEnvC fd s.heap.objs.size a) e) (fun _ s'' => R (.error e) s'') (fun e' s'' => R (.error e') s'') s') s₁)
    (hco : fd.scope.isCoroutine = false) (hgen : fd.scope.isGenerator = false) (hk : fd.scope.kind = .function) :
    codeAny (model prog w) A (.call (.ref a) ⟨vals, []⟩) R s := by
  refine codeAny_call_function hroom ho hdata hco hgen hbody hcd (hbind _ _ _ _ ?_)
  rw [hclo]
  refine wpAny_newFunctionEnv_cells hk hkind fun env he s' x => ?_
  subst he
  exact ⟨hlim.keeps x.toInCall.keep, codeAny_func (h s' x)⟩
/-- the way into a def, to what its body leaves -/
theorem enterF {fd : FuncData} {o : Obj} {B : Heap} {A : Around} {E : Value → Shared → Prop} {s : Shared} {us : List Value} {args : List Val} {ps : List Str} {j : Nat} {Q : Value → Shared → Prop} {Φ : Out → Rho → List Val → Prop}
    (ho : s.heap.get? f = some o) (hdata : o.data = .func fd) (hcd : s.heap.CodeRec fd.code fd.qualname) (hbody : fd.body = .stmts body) (hbind : BindsTo s fd ⟨us, []⟩ (ps.zip us)) (hclo : fd.closure = [])
    (hg : fd.globals = mainGlobals) (hbi : fd.builtins = builtinsNs) (hl : us.length = ps.length) (hnd : ps.Nodup)
    (hkind : ∀ L, ∀ x ∈ ps, fd.scope.names.lookup x = some .local ∨ (fd.scope.names.lookup x = some .cell ∧ ((cellsFrom (L + 1) fd.scope.names []).lookup x).isSome = true))
    (hA : AOk k A) (hj : j < k) (W : WX w B) (keepB : ∀ b o, B.get? b = some o → s.heap.get? b = some o) (newD : ∀ c, D.m = some c → B.get? c = none) (szB : B.objs.size ≤ s.heap.objs.size) (ha : RepL D s.heap args us) (st : Store D σ s.heap)
    (hb : ∀ L, Ex w j (callEnvC fd L f) D (ps.zip args) σ body Φ)
    (hq : ∀ f h' tk o ρ' σ', Kept D.m s.heap h' → OutRep D s.heap h' f o → Store D σ' h' → Φ o ρ' σ' → Q (match f with | .ret v => v | _ => .none) { s with heap := h', toks := tk })
    (hco : fd.scope.isCoroutine = false) (hgen : fd.scope.isGenerator = false) (hk : fd.scope.kind = .function) :
    wpAny (model PGm w) A (call (.ref f) us) Q E s := by
  obtain ⟨X, mean, mg, mb, T⟩ := id W
  refine wpAny_call (codeAny_cells_b (fd := fd) (body := body) (Nat.lt_of_le_of_lt (Nat.le_add_right _ _) hA.2.1) ho hdata (T.nolimit.keeps keepB) hcd hbody hbind hclo (fun x hx => ?_) (fun s₁ I => ?_) hco hgen hk)
  · exact hkind _ x.1 ((zip_names hl) ▸ List.mem_map_of_mem hx)
  obtain ⟨h₁, t₁, e₁⟩ := I.toInCall.same
  subst e₁
  have hfr : ∀ x c, (cellsFrom (s.heap.objs.size + 1) fd.scope.names []).lookup x = some c → s.heap.objs.size < c := fun x c e => I.above x c (lookup_mem e)
  have k0 : ∀ b o, s.heap.get? b = some o → h₁.get? b = some o := I.toInCall.keep
  have S₁ : St w B (callEnvC fd s.heap.objs.size f) D (ps.zip args) σ h₁ := by
    refine ⟨⟨hk, hg, hbi, cells_apart I.apart⟩, fun x v e => ?_, W, ⟨_, I.toInCall.ns, fun b o e => k0 b o (keepB b o e), szB⟩, newD, fun x c e => ?_, fun x c e => ?_, st.kept k0⟩
    · obtain ⟨u, hu, r⟩ := zip_lookup ha e
      refine ⟨u, ?_, r.kept (.of_all k0)⟩
      have hxp : x ∈ ps := (zip_names hl) ▸ List.mem_map_of_mem (f := (·.1)) hu
      have hnd' : ((ps.zip us).map (·.1)).Nodup := by rw [zip_names hl]; exact hnd
      rcases hkind s.heap.objs.size x hxp with q | ⟨q, q'⟩
      · have hk' : (callEnvC fd s.heap.objs.size f).kindOf x = some .local := q
        unfold HeldAt
        rw [hk']
        exact ⟨_, I.toInCall.ns, bindL_mem hnd' hu q⟩
      · have hk' : (callEnvC fd s.heap.objs.size f).kindOf x = some .cell := q
        obtain ⟨c, hc⟩ := Option.isSome_iff_exists.mp q'
        obtain ⟨o, g, hd⟩ := I.cell x c hc
        unfold HeldAt
        rw [hk']
        have hcm := bindC_mem (kd := (callEnvC fd s.heap.objs.size f).kindOf) (m := fun _ => .none) hnd' hu (by rw [hk']; intro z; cases z)
        exact ⟨c, o, hc, g, by rw [hd, hcm]⟩
    · cases g : B.get? c with
      | none => rfl
      | some o => exact absurd (Heap.lt_size (keepB c o g)) (Nat.not_lt.mpr (Nat.le_of_lt (hfr x c e)))
    · obtain ⟨o, g, hd⟩ := I.cell x c e
      exact ⟨o, _, g, hd⟩
  refine wpAny_mono (hb _ (A.deeper _) _ _ B (hA.deeper hj) S₁) (fun fl s' x => ?_) (fun _ _ y => y)
  obtain ⟨h', tk, o, ρ', σ', rfl, K, r, st', _, hΦ⟩ := x
  refine hq fl h' tk o ρ' σ' (fun b o n e => K.1 b o (Nat.ne_of_lt (Heap.lt_size e)) n (fun x q => Nat.lt_irrefl _ (Nat.lt_trans (Heap.lt_size e) (hfr x b q))) (k0 b o e)) ?_ st' hΦ
  cases fl <;> cases o <;> first | exact r | skip
  obtain ⟨a, us', n, e1, e2, e3⟩ := r
  refine ⟨a, us', n, e1, ?_, e3⟩
  cases g : s.heap.get? a with
  | none => rfl
  | some o => rw [k0 a o g] at e2; cases e2
theorem enter {A : Around} {E : Value → Shared → Prop} {s : Shared} {us : List Value} {args : List Val} {ps : List Str} {j : Nat} {Q : Value → Shared → Prop} {Φ : Out → Rho → List Val → Prop}
    (ho : (hd.heap_39 w.params).lookup f = some ⟨oc, od, .func (fnOf name qual params body scope dV kV doc pm an cdv ct), osl⟩) (hcd : codeIn (hd.heap_39 w.params) cdv qual = true)
    (hbind : (hd.heap_39 w.params).In s.heap → BindsTo s (fnOf name qual params body scope dV kV doc pm an cdv ct) ⟨us, []⟩ (ps.zip us)) (hl : us.length = ps.length) (hnd : ps.Nodup)
    (hkind : ∀ L, ∀ x ∈ ps, scope.names.lookup x = some .local ∨ (scope.names.lookup x = some .cell ∧ ((cellsFrom (L + 1) scope.names []).lookup x).isSome = true))
    (hA : AOk k A) (hj : j < k) (hB : Base w D s.heap) (ha : RepL D s.heap args us) (st : Store D σ s.heap)
    (hb : ∀ L, Ex w j (envX qual scope L f cdv (cellsFrom (L + 1) scope.names [])) D (ps.zip args) σ body Φ)
    (hq : ∀ f h' tk o ρ' σ', Kept D.m s.heap h' → OutRep D s.heap h' f o → Store D σ' h' → Φ o ρ' σ' → Q (match f with | .ret v => v | _ => .none) { s with heap := h', toks := tk })
    (hco : scope.isCoroutine = false) (hgen : scope.isGenerator = false) (hk : scope.kind = .function) :
    wpAny (model PGm w) A (call (.ref f) us) Q E s := by
  obtain ⟨B, W, keepB, newD, szB⟩ := hB
  exact enterF (keepB _ _ (W.1 _ _ ho)) rfl ((codeRec_of W.1 hcd).keeps keepB) rfl (hbind (W.1.keeps keepB)) rfl rfl rfl hl hnd hkind hA hj W keepB newD szB ha st hb hq hco hgen hk
end
end
end

section
open PySem PySem.Spec PySem.Calls PySem.W PyProof.Rows
section
variable {w : World} {k : Nat} {B : Heap} {env : Env} {D : Dm} {ρ ρf : Rho} {σ σ₁ σ₂ σ₃ : List Val}

theorem us1 {P : List Value → Prop} (h : ∀ a, P [a]) (us : List Value) (hl : us.length = 1) : P us := by
  cases us with
  | nil => cases hl
  | cons a r => cases r with
    | nil => exact h a
    | cons b r => cases hl
theorem us2 {P : List Value → Prop} (h : ∀ a b, P [a, b]) (us : List Value) (hl : us.length = 2) : P us := by
  cases us with
  | nil => cases hl
  | cons a r => exact us1 (P := fun r => P (a :: r)) (h a) r (Nat.succ.inj hl)
theorem us3 {P : List Value → Prop} (h : ∀ a b c, P [a, b, c]) (us : List Value) (hl : us.length = 3) : P us := by
  cases us with
  | nil => cases hl
  | cons a r => exact us2 (P := fun r => P (a :: r)) (h a) r (Nat.succ.inj hl)
theorem Fn.introD {name qual : Str} {params : Arguments} {body : List Stmt} {scope : Scope} {dV kV doc pm cdv ct oc : Value} {an od : Option Addr} {osl : Array (Option Value)} {f : Addr} {args : List Val} {ps : List Str} {j : Nat} {r : Val} {σf : List Val}
    (ho : (hd.heap_39 w.params).lookup f = some ⟨oc, od, .func (fnOf name qual params body scope dV kV doc pm an cdv ct), osl⟩) (hcd : codeIn (hd.heap_39 w.params) cdv qual = true)
    (hbind : ∀ (s : Shared) (us : List Value), us.length = ps.length → (hd.heap_39 w.params).In s.heap → BindsTo s (fnOf name qual params body scope dV kV doc pm an cdv ct) ⟨us, []⟩ (ps.zip us)) (hl : args.length = ps.length) (hnd : ps.Nodup)
    (hkind : ∀ L, ∀ x ∈ ps, scope.names.lookup x = some .local ∨ (scope.names.lookup x = some .cell ∧ ((cellsFrom (L + 1) scope.names []).lookup x).isSome = true))
    (hco : scope.isCoroutine = false) (hgen : scope.isGenerator = false) (hk : scope.kind = .function)
    (hb : ∀ L, Ex w j (envX qual scope L f cdv (cellsFrom (L + 1) scope.names [])) D (ps.zip args) σ body (RetΦ r σf)) : Fn w (j + 1) f D args σ r σf := fun A E s us hA hB ha st => by
  refine enter (k := j + 1) (j := j) ho hcd (hbind s us (ha.length.trans hl)) (ha.length.trans hl) hnd hkind hA (Nat.lt_succ_self j) hB ha st hb (fun fl h' tk o ρ' σ' K r st' hΦ => ?_) hco hgen hk
  cases o with
  | ret v =>
    obtain ⟨e1, e2⟩ := hΦ
    subst e1 e2
    cases fl <;> first | exact r.elim | exact ⟨⟨h', tk, rfl, K⟩, r, st'⟩
  | retNew vs =>
    obtain ⟨e1, e2⟩ := hΦ
    subst e1 e2
    cases fl <;> first | exact r.elim | skip
    obtain ⟨a, us', n, e1, e2, e3, e4, e5⟩ := r
    subst e1
    exact ⟨⟨h', tk, rfl, K⟩, ⟨a, us'.toList, rfl, e3, ⟨_, e4, rfl, n, by simp⟩, e5⟩, st'⟩
  | next => exact hΦ.elim
  | brk => exact hΦ.elim
  | cont => exact hΦ.elim

theorem Fn.intro {name qual : Str} {params : Arguments} {body : List Stmt} {scope : Scope} {dV kV doc pm cdv ct oc : Value} {an od : Option Addr} {osl : Array (Option Value)} {f : Addr} {args : List Val} {ps : List Str} {j : Nat} {r : Val} {σf : List Val}
    (ho : (hd.heap_39 w.params).lookup f = some ⟨oc, od, .func (fnOf name qual params body scope dV kV doc pm an cdv ct), osl⟩) (hcd : codeIn (hd.heap_39 w.params) cdv qual = true)
    (hbind : ∀ us : List Value, us.length = ps.length → bindArgs (fnOf name qual params body scope dV kV doc pm an cdv ct) ⟨us, []⟩ = pure (ps.zip us)) (hl : args.length = ps.length) (hnd : ps.Nodup)
    (hkind : ∀ L, ∀ x ∈ ps, scope.names.lookup x = some .local ∨ (scope.names.lookup x = some .cell ∧ ((cellsFrom (L + 1) scope.names []).lookup x).isSome = true))
    (hco : scope.isCoroutine = false) (hgen : scope.isGenerator = false) (hk : scope.kind = .function)
    (hb : ∀ L, Ex w j (envX qual scope L f cdv (cellsFrom (L + 1) scope.names [])) D (ps.zip args) σ body (RetΦ r σf)) : Fn w (j + 1) f D args σ r σf :=
  Fn.introD ho hcd (fun s us h _ => BindsTo.of_eq (hbind us h)) hl hnd hkind hco hgen hk hb

/-! comprehensions -/
/-- what a comprehension's turn binds -/
inductive Bnd : Expr → Val → Rho → Prop
  | name {x : Str} {px : Pos} {v : Val} : Bnd (.Name x px) v [(x, v)]
  | pair {a b : Str} {pa pb tp : Pos} {kd : Nat} {va vb : Val} : Bnd (.Tuple [.Name a pa, .Name b pb] kd tp) (.tup [va, vb]) [(b, vb), (a, va)]
/-- the tests: none, or one -/
inductive Ifs (w : World) (k : Nat) (env : Env) (D : Dm) (ρ : Rho) (σ : List Val) : List Expr → Bool → List Val → Prop
  | nil : Ifs w k env D ρ σ [] true σ
  | one {c : Expr} {b : Bool} {σ' : List Val} : Tst w k env D ρ σ c b σ' → Ifs w k env D ρ σ [c] b σ'
/-- a run of the turns: what comes out -/
inductive Run (w : World) (k : Nat) (env : Env) (D : Dm) (ρf : Rho) (target elt : Expr) (ifs : List Expr) : List Val → List Val → List Val → List Val → Prop
  | nil {σ : List Val} : Run w k env D ρf target elt ifs [] σ [] σ
  | skip {σ σ₁ σ₂ : List Val} {v : Val} {vs ys : List Val} {ρ' : Rho} : Bnd target v ρ' → Ifs w k env D (ρ' ++ ρf) σ ifs false σ₁ → Run w k env D ρf target elt ifs vs σ₁ ys σ₂ → Run w k env D ρf target elt ifs (v :: vs) σ ys σ₂
  | take {σ σ₁ σ₂ σ₃ : List Val} {v : Val} {vs : List Val} {y : Val} {ys : List Val} {ρ' : Rho} : Bnd target v ρ' → Ifs w k env D (ρ' ++ ρf) σ ifs true σ₁ → Ev w k env D (ρ' ++ ρf) σ₁ elt y σ₂ → Run w k env D ρf target elt ifs vs σ₂ ys σ₃ → Run w k env D ρf target elt ifs (v :: vs) σ (y :: ys) σ₃

theorem compLoop_go {elt target iter : Expr} {ifs : List Expr} {scope : Scope} {pos : Pos} {it acc : Value} {env : Env} {A : Around} {R : Result → Shared → Prop} {s : Shared} (I : Nat → Shared → Prop)
    (turn : ∀ n s, I n s → ∀ E, wpAny (model PGm w) A (pyNext it) (fun r s₁ => match r with
      | .none => R (.ok .next) s₁
      | some v => wpAny (model PGm w) A (letOwnedTupleGo target it v) (fun _ s₀ => wpAny (model PGm w) A (PySem.assign target env v) (fun _ s₂ =>
          wpAny (model PGm w) A (forIn ifs true fun c r => if r = true then do let ok ← isTrue c env (eval c env); pure (ForInStep.yield ok) else pure (ForInStep.yield r)) (fun ok s₃ =>
            if ok = true then wpAny (model PGm w) A (eval elt env) (fun x s₄ =>
              wpAny (model PGm w) A (call (.builtin "list.append") [acc, x]) (fun _ s₅ => ∃ m, m < n ∧ I m s₅) E s₄) E s₃
            else ∃ m, m < n ∧ I m s₃) E s₂) E s₀) E s₁) E s)
    (n : Nat) (h : I n s) : codeAny (model PGm w) A (.compLoop (.ListComp elt [⟨target, iter, ifs, 0⟩] scope pos) 0 it acc env) R s := by
  refine codeAny_loop rfl I (fun n s hI => ?_) n h
  show wpAny _ A ((compTurn (.ListComp elt [⟨target, iter, ifs, 0⟩] scope pos) 0 it acc env).onRaise (fun x => do noteFrame x env; theTreesLotGoes x)) _ _ s
  refine wpAny_noted ?_
  rw [compTurn_list]
  refine wpAny_bind (wpAny_standAt (wpAny_bind (wpAny_mono (turn n s hI _) (fun r s₁ h₁ => ?_) fun _ _ h' => h')))
  cases r with
  | none => exact wpAny_pure h₁
  | some v =>
    refine wpAny_bind (wpAny_mono h₁ (fun _ s₀ h₀ => ?_) fun _ _ h' => h')
    refine wpAny_bind (wpAny_mono h₀ (fun _ s₂ h₂ => wpAny_bind (wpAny_mono h₂ (fun ok s₃ h₃ => ?_) fun _ _ h' => h')) fun _ _ h' => h')
    cases ok with
    | false => exact wpAny_pure ⟨rfl, h₃⟩
    | true =>
      exact wpAny_bind (wpAny_bind (wpAny_mono h₃ (fun x s₄ h₄ => wpAny_bind (wpAny_mono h₄ (fun _ s₅ h₅ => wpAny_pure (wpAny_pure ⟨rfl, h₅⟩)) fun _ _ h' => h')) fun _ _ h' => h'))

theorem ifs_go {ifs : List Expr} {b : Bool} {A : Around} {E : Value → Shared → Prop} {s : Shared} {Q : Bool → Shared → Prop} (h : Ifs w k env D ρ σ ifs b σ₁) (hA : AOk k A) (S : St w B env D ρ σ s.heap)
    (hq : ∀ s', Step D.m s s' → St w B env D ρ σ₁ s'.heap → Q b s') :
    wpAny (model PGm w) A (forIn ifs true fun c r => if r = true then do let ok ← isTrue c env (eval c env); pure (ForInStep.yield ok) else pure (ForInStep.yield r)) Q E s := by
  cases h with
  | nil => exact wpAny_tests_nil (hq s .refl S)
  | one ht => exact wpAny_tests_one (seqT ht hA S hq)
theorem lookup_append {l : Rho} : ∀ {l' : Rho} {x : Str}, (l' ++ l).lookup x = match l'.lookup x with | some v => some v | .none => l.lookup x
  | [], x => by simp
  | (y, v) :: r, x => by
    rw [List.cons_append, List.lookup_cons, List.lookup_cons]
    cases h : x == y with
    | true => rfl
    | false => exact lookup_append
noncomputable def tnames : Expr → List Str
  | .Name x _ => [x]
  | .Tuple [.Name a _, .Name b _] _ _ => [a, b]
  | _ => []
theorem Bnd.names {target : Expr} {v : Val} {ρ' : Rho} (b : Bnd target v ρ') : ∀ y, ρ'.lookup y ≠ .none → y ∈ tnames target := by
  intro y hy
  cases b with
  | name =>
    rw [lookup_cons_eq] at hy
    rename_i x px
    by_cases q : y = x
    · rw [q]; exact .head _
    · rw [if_neg q] at hy; exact absurd rfl hy
  | pair =>
    rw [lookup_cons_eq, lookup_cons_eq] at hy
    rename_i a b pa pb tp kd va vb
    by_cases q : y = b
    · rw [q]; exact .tail _ (.head _)
    · rw [if_neg q] at hy
      by_cases q' : y = a
      · rw [q']; exact .head _
      · rw [if_neg q'] at hy; exact absurd rfl hy
/-- the target is bound -/
theorem bnd_go {target : Expr} {v : Val} {ρ' : Rho} {u : Value} {A : Around} {E : Value → Shared → Prop} {s : Shared} {Q : Unit → Shared → Prop} (b : Bnd target v ρ') (hA : AOk k A) (S : St w B env D ρ σ s.heap) (r : Rep D s.heap v u)
    (hx : ∀ y ∈ tnames target, env.kindOf y = some .local)
    (hq : ∀ h' tk, St w B env D (ρ' ++ ρ) σ h' → KeptL env s.heap h' → Q () { s with heap := h', toks := tk }) :
    wpAny (model PGm w) A (PySem.assign target env u) Q E s := by
  cases b with
  | name => exact wpAny_assign_Name (storeLoc S (hx _ (.head _)) r hq)
  | pair =>
    obtain ⟨t, us, rfl, hn, hT, hr⟩ := r
    obtain ⟨ua, r', rfl, ra, ub, r'', rfl, rb, e3⟩ := hr
    cases e3
    rename_i a b pa pb tp kd va vb
    have hE : assignEach [.Name a pa, .Name b pb] env = [(false, PySem.assign (.Name a pa) env), (false, PySem.assign (.Name b pb) env)] := by with_unfolding_all rfl
    refine wpAny_assign_Tuple hA.1 hT (by rw [hE]; rfl) (by rw [hE]; rfl) (fun h₂ hx' => ?_)
    rw [hE]
    have k0 : ∀ b o, s.heap.get? b = some o → h₂.get? b = some o := fun b o e => hx' b o (Nat.ne_of_lt (Heap.lt_size e)) e
    have kl : KeptL env s.heap h₂ := ⟨fun b o _ e => k0 b o e, fun b e => live_of_all k0 e⟩
    refine wpAny_assignInOrder_more (wpAny_assign_Name (storeLoc (s := { s with heap := h₂ }) (S.of_all k0) (hx _ (.head _)) (ra.kept (.of_all k0)) fun h₃ t₃ S₃ K₃ => ?_))
    refine wpAny_assignInOrder_more (wpAny_assign_Name (storeLoc (s := { s with heap := h₃, toks := t₃ }) S₃ (hx _ (.tail _ (.head _))) ((K₃.keptS (D := D)).rep (S.of_all k0) (rb.kept (.of_all k0))) fun h₄ t₄ S₄ K₄ => ?_))
    exact wpAny_assignInOrder_none (hq h₄ t₄ S₄ (kl.trans (K₃.trans K₄)))
theorem letGo_go {target : Expr} {v : Val} {ρ' : Rho} {u : Value} {I : Addr} {A : Around} {E : Value → Shared → Prop} {s : Shared} {Q : Unit → Shared → Prop} (b : Bnd target v ρ') (r : Rep D s.heap v u)
    (hI : (∃ i l, s.heap.IsListIter I l i) ∨ ∀ v, letOwnedTupleGo target (.ref I) v = pure ()) (h : Q () s) : wpAny (model PGm w) A (letOwnedTupleGo target (.ref I) u) Q E s := by
  rcases hI with ⟨i, l, hI⟩ | hI
  · cases b with
    | name => exact wpAny_pure h
    | pair =>
      obtain ⟨t, us, rfl, _⟩ := r
      exact wpAny_letOwnedTupleGo_listiter hI h
  · exact wpAny_of_eq (hI u) h

/-- the frame of a comprehension -/
theorem St.inComp {scope : Scope} {cl : List (Str × Addr)} {C a : Addr} {h h' : Heap} {m : Str → Option Value} (S : St w B env D ρ σ h) (hkind : scope.kind = .function) (hcl : ∀ x c, cl.lookup x = some c → env.cells.lookup x = some c)
    (hf : ∀ x v, ρf.lookup x = some v → ρ.lookup x = some v ∧ env.kindOf x = some .cell ∧ (compEnvC scope cl C env).kindOf x = some .cell ∧ (cl.lookup x).isSome = true)
    (k0 : ∀ b o, h.get? b = some o → h'.get? b = some o) (hn : h'.Ns C m) (hC : h.objs.size ≤ C) (ha : h.get? a = none) (ha' : h'.get? a ≠ none) : St w B (compEnvC scope cl C env) ⟨D.m, a :: D.ex⟩ ρf σ h' := by
  have up : ∀ {x : Val} {u : Value}, Rep D h x u → Rep ⟨D.m, a :: D.ex⟩ h' x u := fun r =>
    Rep.keepX (D := D) (D' := ⟨D.m, a :: D.ex⟩) (fun _ e => e) (fun b o n e _ => ⟨k0 b o e, n.1, fun q => by
      rcases List.mem_cons.mp q with q | q
      · rw [q, ha] at e; cases e
      · exact n.2 q⟩) r
  have upL : ∀ {x : List Val} {u : List Value}, RepL D h x u → RepL ⟨D.m, a :: D.ex⟩ h' x u := fun r =>
    RepL.keepX (D := D) (D' := ⟨D.m, a :: D.ex⟩) (fun _ e => e) (fun b o n e _ => ⟨k0 b o e, n.1, fun q => by
      rcases List.mem_cons.mp q with q | q
      · rw [q, ha] at e; cases e
      · exact n.2 q⟩) r
  obtain ⟨m₀, F⟩ := S.fr
  refine ⟨⟨by simp [compEnvC, relabel, hkind], S.frame.globals, S.frame.builtins, fun x y c e1 e2 => S.frame.apart x y c (hcl _ _ e1) (hcl _ _ e2)⟩, fun x v e => ?_, S.ground, ⟨m, hn, fun b o e => k0 b o (F.keep b o e), ?_⟩, S.newD, fun x c e => S.newC x c (hcl _ _ e), fun x c e => ?_, ⟨fun b q => ?_, fun c e => ?_⟩⟩
  · obtain ⟨h1, h2, h3, h4⟩ := hf x v e
    obtain ⟨u, hh, r⟩ := S.names x v h1
    refine ⟨u, ?_, up r⟩
    unfold HeldAt at hh ⊢
    rw [h2] at hh
    rw [h3]
    obtain ⟨c, o, e1, e2, e3⟩ := hh
    obtain ⟨c', hc'⟩ := Option.isSome_iff_exists.mp h4
    have := hcl _ _ hc'
    rw [e1] at this
    cases this
    exact ⟨c, o, hc', k0 c o e2, e3⟩
  · exact Nat.le_trans F.above (Nat.le_trans (Nat.le_of_lt F.ns.lt) hC)
  · obtain ⟨o, v, g, hd⟩ := S.cells x c (hcl _ _ e)
    exact ⟨o, v, k0 c o g, hd⟩
  · rcases List.mem_cons.mp q with q | q
    · rw [q]; exact ha'
    · exact live_of_all k0 (S.store.1 b q)
  · obtain ⟨us, n, g, r⟩ := S.store.cell e
    exact ⟨us, n, k0 _ _ g, upL r⟩
theorem St.fewer {ρ' : Rho} {h : Heap} (S : St w B env D ρ' σ h) (hs : ∀ x v, ρ.lookup x = some v → ρ'.lookup x = some v) : St w B env D ρ σ h :=
  { S with names := fun x v e => S.names x v (hs x v e) }
end
end

section
open PySem PySem.Spec PySem.Calls PySem.W PyProof.Rows
section
variable {w : World} {k : Nat} {B : Heap} {env : Env} {D : Dm} {ρ ρf : Rho} {σ σ₁ σ₂ σ₃ : List Val}

theorem RepL.weaken {a : Addr} {h : Heap} {xs : List Val} {us : List Value} (r : RepL ⟨D.m, a :: D.ex⟩ h xs us) : RepL D h xs us :=
  RepL.keepX (D := ⟨D.m, a :: D.ex⟩) (D' := D) (fun _ e => e) (fun b o n e _ => ⟨e, n.1, fun q => n.2 (.tail _ q)⟩) r
theorem RepL.stronger {a : Addr} {h : Heap} {xs : List Val} {us : List Value} (r : RepL D h xs us) (ha : h.get? a = none) : RepL ⟨D.m, a :: D.ex⟩ h xs us :=
  RepL.keepX (D := D) (D' := ⟨D.m, a :: D.ex⟩) (fun _ e => e) (fun b o n e _ => ⟨e, n.1, fun q => by
    rcases List.mem_cons.mp q with q | q
    · rw [q, ha] at e; cases e
    · exact n.2 q⟩) r
theorem Store.weaken {a : Addr} {h : Heap} (x : Store ⟨D.m, a :: D.ex⟩ σ h) : Store D σ h :=
  ⟨fun b q => x.1 b (.tail _ q), fun c e => let ⟨us, n, g, r⟩ := x.2 c e; ⟨us, n, g, r.weaken⟩⟩

theorem St.exAt {a : Addr} {h h' : Heap} {us us' : Array Value} {n n' : Nat} (S : St w B env D ρ σ h) (haD : a ∈ D.ex) (naD : D.m ≠ some a) (g : h.get? a = some { cls := .type "list", data := .seq us n }) (g' : h'.get? a = some { cls := .type "list", data := .seq us' n' })
    (hs : Heap.SameBut a h h') (hB : B.get? a = none) : St w B env D ρ σ h' := by
  have kk : ∀ b o, b ≠ a → h.get? b = some o → h'.get? b = some o := fun b o n e => (hs.2 b n).trans e
  have repA : ∀ {x : Val} {u : Value}, Rep D h x u → Rep D h' x u := fun r => r.keepX (fun _ e => e) fun b o n e _ => ⟨kk b o (fun z => n.2 (by rw [z]; exact haD)) e, n⟩
  have repLA : ∀ {x : List Val} {u : List Value}, RepL D h x u → RepL D h' x u := fun r => r.keepX (fun _ e => e) fun b o n e _ => ⟨kk b o (fun z => n.2 (by rw [z]; exact haD)) e, n⟩
  obtain ⟨m₆, F₆⟩ := S.fr
  refine ⟨S.frame, fun x v e => ?_, S.ground, ⟨m₆, ?_, fun b o e => kk b o (fun z => ?_) (F₆.keep b o e), F₆.above⟩, S.newD, S.newC, fun x c e => ?_, ⟨fun b q => ?_, fun c e => ?_⟩⟩
  · obtain ⟨u, hh, r⟩ := S.names x v e
    refine ⟨u, ?_, repA r⟩
    refine hh.kept fun b o e hn => ?_
    exact kk b o (fun z => by rw [z, g] at e; cases e; exact hn _ _ rfl) e
  · obtain ⟨o, es, ep, ho, hd, r⟩ := F₆.ns
    exact ⟨o, es, ep, kk _ _ (fun z => by rw [z, g] at ho; cases ho; cases hd) ho, hd, r⟩
  · rw [z, hB] at e; cases e
  · obtain ⟨o, v, g', hd⟩ := S.cells x c e
    exact ⟨o, v, kk _ _ (fun z => by rw [z, g] at g'; cases g'; cases hd) g', hd⟩
  · by_cases z : b = a
    · rw [z, g']; intro q; cases q
    · rw [hs.2 b z]; exact S.store.1 b q
  · obtain ⟨us', n', g', r⟩ := S.store.cell e
    exact ⟨us', n', kk _ _ (fun z => naD (z ▸ e)) g', repLA r⟩
/-- between the turns of a comprehension -/
inductive CompI (w : World) (k : Nat) (B : Heap) (env : Env) (D : Dm) (a : Addr) (ρf : Rho) (target elt : Expr) (ifs : List Expr) (xs ys : List Val) (σ₁ : List Val) (It : Nat → Heap → Prop) (h₁ : Heap) (s : Shared) (n : Nat) (s' : Shared) : Prop
  | mk (i : Nat) (h : Heap) (tk : Nat) (σ' don rest : List Val) (us : Array Value) (na : Nat) (e : s' = { s with heap := h, toks := tk }) (en : n = xs.length + 1 - i) (le : i ≤ xs.length) (it : It i h)
    (g : h.get? a = some { cls := .type "list", data := .seq us na }) (dn : RepL ⟨D.m, a :: D.ex⟩ h don us.toList) (dl : don.length ≤ i) (S : St w B env ⟨D.m, a :: D.ex⟩ ρf σ' h) (kp : Kept D.m h₁ h)
    (r : Run w k env ⟨D.m, a :: D.ex⟩ ρf target elt ifs (xs.drop i) σ' rest σ₁) (ey : don ++ rest = ys)
/-- the loop of a comprehension -/
theorem comp_loop {target elt iter : Expr} {ifs : List Expr} {scope : Scope} {cl : List (Str × Addr)} {pos : Pos} {xs ys : List Val} {A : Around} {s : Shared} {h₁ h₄ : Heap} {t₄ : Nat} {I a C : Addr} {It : Nat → Heap → Prop} {R : Result → Shared → Prop} {m : Str → Option Value}
    (hA : AOk k A) (S₁ : St w B env D ρ σ h₁) (hI : h₁.get? I = none) (ha : h₁.get? a = none) (hC : h₁.objs.size ≤ C) (hIa : I ≠ a) (hIC : I ≠ C) (haC : a ≠ C)
    (k0 : ∀ b o, h₁.get? b = some o → h₄.get? b = some o) (hn : h₄.Ns C m) (hacc : h₄.PlainList a #[])
    (src : Src w ⟨D.m, a :: D.ex⟩ I xs It) (hIt : It 0 h₄) (hgo : (∀ i h, It i h → ∃ l, h.IsListIter I l i) ∨ ∀ v, letOwnedTupleGo target (.ref I) v = pure ())
    (hkind : scope.kind = .function) (hcl : ∀ x c, cl.lookup x = some c → env.cells.lookup x = some c)
    (hf : ∀ x v, ρf.lookup x = some v → ρ.lookup x = some v ∧ env.kindOf x = some .cell ∧ (compEnvC scope cl C env).kindOf x = some .cell ∧ (cl.lookup x).isSome = true)
    (hx : ∀ y ∈ tnames target, (compEnvC scope cl C env).kindOf y = some .local) (hz : xs.length ≤ 1000000)
    (hrun : Run w k (compEnvC scope cl C env) ⟨D.m, a :: D.ex⟩ ρf target elt ifs xs σ ys σ₁)
    (hR : ∀ h' tk m' us n, h'.Ns C m' → h'.get? a = some { cls := .type "list", data := .seq us n } → RepL ⟨D.m, a :: D.ex⟩ h' ys us.toList → Store ⟨D.m, a :: D.ex⟩ σ₁ h' → Kept D.m h₁ h' → R (.ok .next) { s with heap := h', toks := tk }) :
    codeAny (model PGm w) A (.compLoop (.ListComp elt [⟨target, iter, ifs, 0⟩] scope pos) 0 (.ref I) (.ref a) (compEnvC scope cl C env)) R { s with heap := h₄, toks := t₄ } := by
  have ha' : h₄.get? a ≠ none := by obtain ⟨n, g⟩ := hacc; rw [g]; intro q; cases q
  have S₄ := S₁.inComp (ρf := ρf) (cl := cl) (scope := scope) hkind hcl hf k0 hn hC ha ha'
  have hIB : B.get? I = none := S₁.freshB hI
  have hIx : I ∉ a :: D.ex := fun q => by
    rcases List.mem_cons.mp q with q | q
    · exact hIa q
    · exact S₁.store.1 I q hI
  have hCB : h₁.get? C = none := fresh_none hC
  refine compLoop_go (fun n s' => CompI w k B (compEnvC scope cl C env) D a ρf target elt ifs xs ys σ₁ It h₁ s n s')
    (fun n s' hIv E => ?_) (xs.length + 1) ?_
  case refine_2 =>
    obtain ⟨na, g⟩ := hacc
    exact ⟨0, h₄, t₄, σ, [], ys, #[], na, rfl, rfl, Nat.zero_le _, hIt, g, rfl, Nat.le_refl _, S₄, .of_all k0, by simpa using hrun, rfl⟩
  obtain ⟨i, h, tk, σ', don, rest, us, na, rfl, rfl, hle, hit, ga, hdon, hdl, S, hk, hrun', hys⟩ := hIv
  obtain ⟨oI, zI, gI, dI⟩ := src.obj i h hit
  have n1 : ∀ us n, oI.data ≠ .seq us n := fun _ _ q => by rw [dI] at q; cases q
  have n2 : ∀ us n, oI.data ≠ .dict us n := fun _ _ q => by rw [dI] at q; cases q
  have n3 : ∀ v, oI.data ≠ .cell v := fun _ q => by rw [dI] at q; cases q
  have hgI : ∀ o, h.get? I = some o → ∀ us n, o.data ≠ .seq us n := fun o e => by rw [gI] at e; cases e; exact n1
  cases hv : xs[i]? with
  | none =>
    have hei : i = xs.length := by
      have h2 : xs.length ≤ i := by simpa using hv
      lia
    subst hei
    refine src.done A _ { s with heap := h, toks := tk } _ hA.1 hit (fun h₂ kk => ?_)
    have S₂ := S.butAt kk gI n1 n2 n3 hIB hIx
    rw [List.drop_length] at hrun'
    cases hrun'
    obtain ⟨m₂, F₂⟩ := S₂.fr
    refine hR h₂ tk m₂ us na F₂.ns (kk a _ (Ne.symm hIa) ga) ?_ S₂.store (fun b o n e => kk b o (fun q => by rw [q, hI] at e; cases e) (hk b o n e))
    rw [List.append_nil] at hys
    subst hys
    exact hdon.butAt kk hgI
  | some v =>
    have hlt : i < xs.length := by
      rcases Nat.lt_or_ge i xs.length with q | q
      · exact q
      · rw [List.getElem?_eq_none q] at hv; cases hv
    have hdrop : xs.drop i = v :: xs.drop (i + 1) := by
      rw [List.drop_eq_getElem_cons hlt]
      rw [List.getElem?_eq_getElem hlt] at hv
      rw [Option.some.inj hv]
    rw [hdrop] at hrun'
    refine src.item i v A _ { s with heap := h, toks := tk } _ hA.1 hv hit (fun u h₂ t₂ hit₂ ru kk => ?_)
    have S₂ := S.butAt kk gI n1 n2 n3 hIB hIx
    have hk₂ : Kept D.m h₁ h₂ := fun b o n e => kk b o (fun q => by rw [q, hI] at e; cases e) (hk b o n e)
    have ga₂ := kk a _ (Ne.symm hIa) ga
    have hdon₂ := hdon.butAt kk hgI
    obtain ⟨oJ, zJ, gJ, dJ⟩ := src.obj _ _ hit₂
    have offI : ∀ {ρ σ h}, St w B (compEnvC scope cl C env) ⟨D.m, a :: D.ex⟩ ρ σ h → h.get? I = some oJ → D.m ≠ some I := fun S e q => by
      obtain ⟨us', n', g, _⟩ := S.store.cell q
      rw [e] at g; cases g; cases dJ
    -- the target, the tests
    have turn : ∀ {ρ' : Rho} {b : Bool} {σ₅ : List Val} {Q : Bool → Shared → Prop}, Bnd target v ρ' → Ifs w k (compEnvC scope cl C env) ⟨D.m, a :: D.ex⟩ (ρ' ++ ρf) σ' ifs b σ₅ →
        (∀ h₅ t₅, It (i + 1) h₅ → h₅.get? a = some { cls := .type "list", data := .seq us na } → RepL ⟨D.m, a :: D.ex⟩ h₅ don us.toList → St w B (compEnvC scope cl C env) ⟨D.m, a :: D.ex⟩ (ρ' ++ ρf) σ₅ h₅ → Kept D.m h₁ h₅ → Q b { s with heap := h₅, toks := t₅ }) →
        wpAny (model PGm w) A (letOwnedTupleGo target (.ref I) u) (fun _ s₀ => wpAny (model PGm w) A (PySem.assign target (compEnvC scope cl C env) u) (fun _ s₂ =>
          wpAny (model PGm w) A (forIn ifs true fun c r => if r = true then do let ok ← isTrue c (compEnvC scope cl C env) (eval c (compEnvC scope cl C env)); pure (ForInStep.yield ok) else pure (ForInStep.yield r)) Q E s₂) E s₀) E { s with heap := h₂, toks := t₂ } := by
      intro ρ' b σ₅ Q hb hi hq
      refine letGo_go hb ru (hgo.imp (fun g => ⟨i + 1, g _ _ hit₂⟩) id) ?_
      refine bnd_go (s := { s with heap := h₂, toks := t₂ }) hb hA S₂ ru hx fun h₃ t₃ S₃ K₃ => ?_
      refine ifs_go (s := { s with heap := h₃, toks := t₃ }) hi hA S₃ fun s₅ p₅ S₅ => ?_
      obtain ⟨h₅, t₅, rfl, hk₅⟩ := p₅
      have gJ₃ : h₃.get? I = some oJ := K₃.1 I oJ hIC gJ
      have keepA : ∀ b o, D.m ≠ some b → b ≠ C → h₂.get? b = some o → h₅.get? b = some o := fun b o n nc e => hk₅ b o n (K₃.1 b o nc e)
      have nsC : ∀ o, h₂.get? C = some o → ∀ us n, o.data ≠ .seq us n := by obtain ⟨m₂, F₂⟩ := S₂.fr; exact Heap.Ns.noSeq F₂.ns
      refine hq h₅ t₅ ?_ ?_ ?_ S₅ ?_
      · exact src.stable _ _ _ hit₂ (fun o e => by rw [gJ] at e; cases e; exact keepA I oJ (offI S₂ gJ) hIC gJ) fun b o n e ⟨us', m', q⟩ => keepA b o n.1 (fun z => nsC o (z ▸ e) us' m' q) e
      · exact keepA a _ (fun q => by obtain ⟨_, _, g, _⟩ := S₁.store.cell q; rw [ha] at g; cases g) haC ga₂
      · exact RepL.keepX (D := ⟨D.m, a :: D.ex⟩) (D' := ⟨D.m, a :: D.ex⟩) (fun _ e => e) (fun b o n e ⟨us', m', q⟩ => ⟨keepA b o n.1 (fun z => nsC o (z ▸ e) us' m' q) e, n⟩) hdon₂
      · exact fun b o n e => keepA b o n (fun z => by rw [z, hCB] at e; cases e) (hk₂ b o n e)
    have less : ∀ {ρ' : Rho} {σ h}, Bnd target v ρ' → St w B (compEnvC scope cl C env) ⟨D.m, a :: D.ex⟩ (ρ' ++ ρf) σ h → St w B (compEnvC scope cl C env) ⟨D.m, a :: D.ex⟩ ρf σ h := fun {ρ' _ _} hb S => S.fewer fun x v' e => by
      rw [lookup_append]
      cases q : ρ'.lookup x with
      | none => exact e
      | some z =>
        have h1 := hx x (hb.names x (by rw [q]; intro z; cases z))
        rw [(hf x v' e).2.2.1] at h1; cases h1
    cases hrun' with
    | skip hb hi hr =>
      refine turn hb hi fun h₅ t₅ it₅ g₅ r₅ S₅ k₅ => ?_
      exact ⟨xs.length + 1 - (i + 1), Nat.sub_lt_sub_left (Nat.lt_succ_of_lt hlt) (Nat.lt_succ_self i), i + 1, h₅, t₅, _, don, rest, us, na, rfl, rfl, hlt, it₅, g₅, r₅, Nat.le_succ_of_le hdl, less hb S₅, k₅, hr, hys⟩
    | @take _ _ _ _ _ _ y₀ ys₀ ρ₀ hb hi he hr =>
      refine turn hb hi fun h₅ t₅ it₅ g₅ r₅ S₅ k₅ => ?_
      rw [if_pos rfl]
      refine seq (s := { s with heap := h₅, toks := t₅ }) he hA S₅ fun u₆ s₆ p₆ r₆ S₆ => ?_
      obtain ⟨h₆, t₆, rfl, hk₆⟩ := p₆
      have naD : D.m ≠ some a := fun q => by obtain ⟨_, _, g, _⟩ := S₁.store.cell q; rw [ha] at g; cases g
      have g₆ := hk₆ a _ naD g₅
      have hlen : us.size = don.length := by rw [← Array.length_toList]; exact r₅.length
      refine wpAny_list_append_plain ⟨na, g₆⟩ (fun h₇ ⟨n₇, g₇⟩ hs₇ => ?_) (by rw [hlen, sizeLine_eq]; lia)
      have kk₇ : ∀ b o, b ≠ a → h₆.get? b = some o → h₇.get? b = some o := fun b o n e => (hs₇.2 b n).trans e
      obtain ⟨oK, zK, gK, dK⟩ := src.obj _ _ it₅
      have offI₅ : D.m ≠ some I := fun q => by
        obtain ⟨us', n', g, _⟩ := S₅.store.cell q
        rw [gK] at g; cases g; cases dK
      have repA : ∀ {x : Val} {u : Value}, Rep ⟨D.m, a :: D.ex⟩ h₆ x u → Rep ⟨D.m, a :: D.ex⟩ h₇ x u := fun r => r.keepX (fun _ e => e) fun b o n e _ => ⟨kk₇ b o (fun z => n.2 (by rw [z]; exact .head _)) e, n⟩
      have repLA : ∀ {x : List Val} {u : List Value}, RepL ⟨D.m, a :: D.ex⟩ h₆ x u → RepL ⟨D.m, a :: D.ex⟩ h₇ x u := fun r => r.keepX (fun _ e => e) fun b o n e _ => ⟨kk₇ b o (fun z => n.2 (by rw [z]; exact .head _)) e, n⟩
      have it₇ : It (i + 1) h₇ := by
        refine src.stable _ h₆ _ (src.stable _ _ _ it₅ (fun o e => hk₆ I o offI₅ e) fun b o n e _ => hk₆ b o n.1 e) (fun o e => kk₇ I o hIa e) fun b o n e _ => kk₇ b o (fun z => n.2 (by rw [z]; exact .head _)) e
      have S₆' := less hb S₆
      have S₇ := S₆'.exAt (.head _) naD g₆ g₇ hs₇ (S₁.freshB ha)
      refine ⟨xs.length + 1 - (i + 1), Nat.sub_lt_sub_left (Nat.lt_succ_of_lt hlt) (Nat.lt_succ_self i), i + 1, h₇, t₆, _, don ++ [y₀], ys₀, us.push u₆, n₇, rfl, rfl, hlt, it₇, g₇, ?_, ?_, S₇, ?_, hr, ?_⟩
      · rw [Array.toList_push]
        exact repLA ((r₅.kept hk₆).append (.single r₆))
      · rw [List.length_append]; simp; omega
      · exact fun b o n e => kk₇ b o (fun z => by rw [z, ha] at e; cases e) (hk₆ b o n (k₅ b o n e))
      · rw [← hys]; simp

/-- what a source hands the loop: an iterator -/
noncomputable def Source (w : World) (k : Nat) (env : Env) (D : Dm) (ρ : Rho) (σ : List Val) (target iter : Expr) (xs : List Val) (σ' : List Val) : Prop :=
  ∀ (A : Around) (E : Value → Shared → Prop) (s : Shared) (B : Heap) (Q : Value → Shared → Prop), AOk k A → St w B env D ρ σ s.heap →
    (∀ s₁ h₂ (It : Addr → Nat → Heap → Prop), Step D.m s s₁ → St w B env D ρ σ' s₁.heap → h₂.objs.size = s₁.heap.objs.size + 1 → (∀ b o, s₁.heap.get? b = some o → h₂.get? b = some o) →
      (∀ a, s₁.heap.get? a = none → Src w ⟨D.m, a :: D.ex⟩ s₁.heap.objs.size xs (It a)) → (∀ a h', s₁.heap.get? a = none → (∀ b o, h₂.get? b = some o → h'.get? b = some o) → It a 0 h') →
      ((∀ a i h, It a i h → ∃ l, h.IsListIter s₁.heap.objs.size l i) ∨ ∀ v, letOwnedTupleGo target (.ref s₁.heap.objs.size) v = pure ()) →
      Q (.ref s₁.heap.objs.size) { s₁ with heap := h₂ }) →
    wpAny (model PGm w) A (eval iter env) (fun xv s₁ => wpAny (model PGm w) A (pyIter xv) Q E s₁) E s

theorem Source.list {target iter : Expr} {xs : List Val} (h : Ev w k env D ρ σ iter (.list xs) σ₁) : Source w k env D ρ σ target iter xs σ₁ := fun A E s B Q hA S hq => by
  refine seq h hA S fun u s₁ p r S₁ => ?_
  obtain ⟨l, us, rfl, hlD, hl, hr⟩ := r
  refine wpAny_pyIter_list hl ?_
  have hI : s₁.heap.get? s₁.heap.objs.size = none := fresh_none (Nat.le_refl _)
  have k0 : ∀ b o, s₁.heap.get? b = some o → (s₁.heap.push { cls := .type "list_iterator", data := .fields #[.ref l, .int 0 0] }).get? b = some o := fun b o e => Heap.get?_push_of_some _ e
  obtain ⟨ol, gl, _⟩ := id hl
  refine hq s₁ _ (fun a i h => h.IsListIter s₁.heap.objs.size l i ∧ h.IsList l us.toArray ∧ RepL ⟨D.m, a :: D.ex⟩ h xs us) p S₁ (Heap.size_push _ _) k0 (fun a ha => ?_) (fun a h' ha kk => ?_) (.inl fun a i h g => ⟨l, g.1⟩)
  · refine Src.list (fun q => ?_) ⟨hlD.1, fun q => ?_⟩
    · rw [q, hI] at gl; cases gl
    · rcases List.mem_cons.mp q with q | q
      · rw [q, ha] at gl; cases gl
      · exact hlD.2 q
  · exact ⟨⟨_, kk _ _ (Heap.get?_push_size _ rfl), rfl, rfl⟩, isList_kept hl fun o e => kk _ _ (k0 _ _ e), (hr.stronger ha).kept (.of_all fun b o e => kk _ _ (k0 _ _ e))⟩
theorem Source.range {x : Str} {px : Pos} {iter : Expr} {n : Nat} (h : EvR w k env D ρ σ iter n σ₁) (hn : n ≤ 1000000) : Source w k env D ρ σ (.Name x px) iter (rangeV n) σ₁ := fun A E s B Q hA S hq => by
  refine wpAny_mono (h A E s B hA S) (fun u s₁ h => ?_) fun _ _ e => e
  obtain ⟨p₁, st₁, r, t, u₁, v₁, rfl, hr⟩ := h
  have S₁ := S.step p₁ st₁
  refine wpAny_pyIter_range hr (small_one (by lia) (by omega) (by lia) (by omega)) ?_
  have hsz : Builtin.Range.rangeSize 0 n 1 = (n : Int) - ((0 : Nat) : Int) := by
    rw [rangeSize_one]; split <;> lia
  refine hq s₁ _ (fun a i h => IsRangeIter h s₁.heap.objs.size (i : Int) ((n : Int) - i) 1) p₁ S₁ (Heap.size_push _ _) (fun b o e => Heap.get?_push_of_some _ e) (fun a ha => Src.range) (fun a h' ha kk => ?_) (.inr fun v => rfl)
  rw [hsz] at kk
  exact kk _ _ (Heap.get?_push_size _ rfl)

/-- the common part of the two comprehension rules -/
theorem comp_go {target elt iter : Expr} {ifs : List Expr} {scope : Scope} {cl : List (Str × Addr)} {pos : Pos} {xs ys : List Val} {A : Around} {E : Value → Shared → Prop} {s : Shared} {use : Option (Value → Sem Unit)} {Q : Value → Shared → Prop}
    (hsrc : Source w k env D ρ σ target iter xs σ₁) (hA : AOk k A) (S : St w B env D ρ σ s.heap)
    (hcell : ∀ y ∈ scope.names, y.2 ≠ .cell) (hkind : scope.kind = .function) (hnames : ∀ y ∈ scope.names, y.2 = .local → scope.names.lookup y.1 = some .local)
    (hclos : closureFor scope env = pure cl) (hcl : ∀ x c, cl.lookup x = some c → env.cells.lookup x = some c)
    (hf : ∀ x v, ρf.lookup x = some v → ρ.lookup x = some v ∧ env.kindOf x = some .cell ∧ (∀ C, (compEnvC scope cl C env).kindOf x = some .cell) ∧ (cl.lookup x).isSome = true)
    (hx : ∀ C, ∀ y ∈ tnames target, (compEnvC scope cl C env).kindOf y = some .local) (hz : xs.length ≤ 1000000)
    (hrun : ∀ C a, Run w k (compEnvC scope cl C env) ⟨D.m, a :: D.ex⟩ ρf target elt ifs xs σ₁ ys σ₂)
    (hs : ∀ x, foldedSetIterable iter env x = pure x)
    (hR : ∀ a C h' tk m', h'.Ns C m' → s.heap.get? C = none → D.m ≠ some C → C ∉ D.ex → (∀ x c, env.cells.lookup x = some c → c ≠ C) → C ≠ env.locals → Rep D h' (.list ys) (.ref a) → (∀ o, h'.get? a = some o → a ≠ C) → Step D.m s { s with heap := h', toks := tk } → Store D σ₂ h' →
      compPost (model PGm w) A E use Q (.ref a) C (.ok .next) { s with heap := h', toks := tk }) :
    wpAny (model PGm w) A (comprehension (.ListComp elt [⟨target, iter, ifs, 0⟩] scope pos) scope env (firstIterPos [⟨target, iter, ifs, 0⟩] pos) (newList []) false (eval iter env) use) Q E s := by
  refine wpAny_comprehension_free (cl := cl) rfl hs hclos hkind hnames (hsrc A E s B _ hA S fun s₁ h₂ It p S₁ hsz k0 src hIt hgo => ?_)
  have K₁ := p
  obtain ⟨h₁, t₁, rfl, hk₁⟩ := p
  dsimp only at hsz k0 src hIt hgo S₁ ⊢
  refine wpAny_newObj_type (wpAny_newFunctionEnv hcell (by intro y hy; simp at hy) (fun h₃ hns₃ hsb₃ => ?_) hkind)
  dsimp only at hns₃ hsb₃ ⊢
  have hI : h₁.get? h₁.objs.size = none := fresh_none (Nat.le_refl _)
  have ha : h₁.get? h₂.objs.size = none := fresh_none (by rw [hsz]; exact Nat.le_succ _)
  have hCs : (h₂.push { cls := .type "list", dict := none, data := .seq ([] : List Value).toArray }).objs.size = h₂.objs.size + 1 := Heap.size_push _ _
  generalize hH : h₂.push { cls := .type "list", dict := none, data := .seq ([] : List Value).toArray } = H at *
  have hC : h₁.objs.size ≤ H.objs.size := by lia
  have kH : ∀ b o, h₂.get? b = some o → h₃.get? b = some o := fun b o e => by
    have h1 : H.get? b = some o := by rw [← hH]; exact Heap.get?_push_of_some _ e
    exact hsb₃.extBut b o (Nat.ne_of_lt (Heap.lt_size h1)) (Heap.get?_push_of_some _ h1)
  have gA : H.get? h₂.objs.size = some { cls := .type "list", dict := none, data := .seq ([] : List Value).toArray } := by rw [← hH]; exact Heap.get?_push_size _ rfl
  have gA₃ : h₃.get? h₂.objs.size = some { cls := .type "list", dict := none, data := .seq ([] : List Value).toArray } := hsb₃.extBut _ _ (Nat.ne_of_lt (Heap.lt_size gA)) (Heap.get?_push_of_some _ gA)
  have hCn : h₁.get? H.objs.size = none := fresh_none hC
  have hIn : h₁.objs.size ≠ h₂.objs.size := by lia
  have hIC : h₁.objs.size ≠ H.objs.size := by lia
  have haC : h₂.objs.size ≠ H.objs.size := by lia
  have offC := S₁.store.off hCn
  have go : ∀ tk, codeAny (model PGm w) A (.compLoop (.ListComp elt [⟨target, iter, ifs, 0⟩] scope pos) 0 (.ref h₁.objs.size) (.ref h₂.objs.size) (compEnvC scope cl H.objs.size env)) (compPost (model PGm w) A E use Q (.ref h₂.objs.size) H.objs.size) { s with heap := h₃, toks := tk } := fun tk => by
    refine comp_loop (s := s) (m := fun x => List.lookup x ([] : List (Str × Value)).reverse) hA S₁ hI ha hC hIn hIC haC (fun b o e => kH b o (k0 b o e)) hns₃ ⟨0, gA₃⟩ (src _ ha) (hIt _ _ ha kH) (hgo.imp (fun g => g _) id) hkind hcl (fun x v e => ?_) (hx _) hz (hrun _ _) (fun h' tk m' us n hn g r st hk => ?_)
    · obtain ⟨e1, e2, e3, e4⟩ := hf x v e
      exact ⟨e1, e2, e3 _, e4⟩
    · refine hR _ _ h' tk m' hn ?_ offC.1 offC.2 (fun x c e q => ?_) (fun q => ?_) ⟨_, us.toList, rfl, S₁.store.off ha, ⟨_, g, rfl, n, by simp⟩, r.weaken⟩ (fun o e => haC) ⟨h', tk, rfl, Kept.trans hk₁ hk⟩ st.weaken
      · cases q : s.heap.get? H.objs.size with
        | none => rfl
        | some o => rw [hk₁ _ o offC.1 q] at hCn; cases hCn
      · obtain ⟨o, v, g, _⟩ := S₁.cells x c e
        rw [q, hCn] at g; cases g
      · obtain ⟨m₀, F⟩ := S₁.fr
        have h1 := F.ns.lt
        rw [← q] at h1
        exact Nat.lt_irrefl _ (Nat.lt_of_lt_of_le h1 hC)
  exact codeAny_compStart_list (go _) ((src _ ha).self 0 _ _ _ _ (hIt _ _ ha kH) (go _))
end
end

section
open PySem PySem.Spec PySem.Calls PySem.W PyProof.Rows
section
variable {w : World} {k : Nat} {B : Heap} {env : Env} {D : Dm} {ρ ρf : Rho} {σ σ₁ σ₂ σ₃ : List Val}

/-- a comprehension's shape -/
noncomputable abbrev CompOk (env : Env) (scope : Scope) (cl : List (Str × Addr)) (target iter : Expr) : Prop := (∀ y ∈ scope.names, y.2 ≠ .cell) ∧ (scope.kind = .function) ∧ (∀ y ∈ scope.names, y.2 = .local → scope.names.lookup y.1 = some .local) ∧ (closureFor scope env = pure cl) ∧ (∀ x c, cl.lookup x = some c → env.cells.lookup x = some c) ∧ (∀ C, ∀ y ∈ tnames target, (compEnvC scope cl C env).kindOf y = some .local) ∧ (∀ x, foldedSetIterable iter env x = pure x)
/-- the names that the comprehension sees -/
noncomputable def CompSee (env : Env) (scope : Scope) (cl : List (Str × Addr)) (ρ ρf : Rho) : Prop :=
  ∀ x v, ρf.lookup x = some v → ρ.lookup x = some v ∧ env.kindOf x = some .cell ∧ (∀ C, (compEnvC scope cl C env).kindOf x = some .cell) ∧ (cl.lookup x).isSome = true
theorem CompSee.nil {scope : Scope} {cl : List (Str × Addr)} : CompSee env scope cl ρ [] := fun x v e => by cases e
theorem CompSee.cons {scope : Scope} {cl : List (Str × Addr)} {x : Str} {v : Val} (h : CompSee env scope cl ρ ρf) (h1 : ρ.lookup x = some v) (h2 : env.kindOf x = some .cell) (h3 : ∀ C, (compEnvC scope cl C env).kindOf x = some .cell) (h4 : (cl.lookup x).isSome = true) :
    CompSee env scope cl ρ ((x, v) :: ρf) := fun y u e => by
  rw [lookup_cons_eq] at e
  by_cases q : y = x
  · rw [if_pos q] at e; cases e; subst q; exact ⟨h1, h2, h3, h4⟩
  · rw [if_neg q] at e; exact h y u e

theorem Ev.comp {target elt iter : Expr} {ifs : List Expr} {scope : Scope} {cl : List (Str × Addr)} {pos : Pos} {xs ys : List Val}
    (hsrc : Source w k env D ρ σ target iter xs σ₁) (ok : CompOk env scope cl target iter) (see : CompSee env scope cl ρ ρf) (hz : xs.length ≤ 1000000)
    (hrun : ∀ C a, Run w k (compEnvC scope cl C env) ⟨D.m, a :: D.ex⟩ ρf target elt ifs xs σ₁ ys σ₂) :
    Ev w k env D ρ σ (.ListComp elt [⟨target, iter, ifs, 0⟩] scope pos) (.list ys) σ₂ := fun A E s B hA S => by
  rw [eval_ListComp]
  refine comp_go (use := .none) hsrc hA S ok.1 ok.2.1 ok.2.2.1 ok.2.2.2.1 ok.2.2.2.2.1 see ok.2.2.2.2.2.1 hz hrun ok.2.2.2.2.2.2 (fun a C h' tk m' hn hC hDC hCex hcl hCl r hac p st => ?_)
  refine ⟨m', hn, fun h'' hs => ?_⟩
  have kk : ∀ b o, b ≠ C → h'.get? b = some o → h''.get? b = some o := fun b o n e => (hs.2 b n).trans e
  have hp := Heap.Ns.noSeq hn
  refine ⟨?_, r.butAt kk hp, st.butAt kk hp (.inl hCex)⟩
  exact ⟨h'', tk, rfl, fun b o n e => kk b o (fun q => by rw [q, hC] at e; cases e) (p.heap b o n e)⟩

theorem St.butFree {h h' : Heap} {p : Addr} (S : St w B env D ρ σ h) (hs : ∀ b o, b ≠ p → h.get? b = some o → h'.get? b = some o) (hp : ∀ o, h.get? p = some o → ∀ us n, o.data ≠ .seq us n) (h1 : p ≠ env.locals) (h2 : ∀ x c, env.cells.lookup x = some c → c ≠ p) (hB : B.get? p = none) (hx : p ∉ D.ex) :
    St w B env D ρ σ h' := by
  obtain ⟨m, F⟩ := S.fr
  have nsK : ∀ {m}, h.Ns env.locals m → h'.Ns env.locals m := fun ⟨o, es, ep, g, hd, r⟩ => ⟨o, es, ep, hs _ _ (Ne.symm h1) g, hd, r⟩
  refine ⟨S.frame, fun x v e => ?_, S.ground, ⟨m, nsK F.ns, fun b o e => hs b o (fun q => by rw [q, hB] at e; cases e) (F.keep b o e), F.above⟩, S.newD, S.newC, fun x c e => ?_, S.store.butAt hs hp (.inl hx)⟩
  · obtain ⟨u, hh, r⟩ := S.names x v e
    refine ⟨u, ?_, r.butAt hs hp⟩
    unfold HeldAt at hh ⊢
    split at hh
    · obtain ⟨m', hm', e'⟩ := hh
      exact ⟨m', nsK hm', e'⟩
    · obtain ⟨c', o, e1, e2, e3⟩ := hh
      exact ⟨c', o, e1, hs c' o (h2 _ _ e1) e2, e3⟩
    · obtain ⟨c', o, e1, e2, e3⟩ := hh
      exact ⟨c', o, e1, hs c' o (h2 _ _ e1) e2, e3⟩
    · exact hh.elim
  · obtain ⟨o, v, g, hd⟩ := S.cells x c e
    exact ⟨o, v, hs c o (h2 x c e) g, hd⟩

theorem Ex1.assignComp {y : Str} {py spos : Pos} {target elt iter : Expr} {ifs : List Expr} {scope : Scope} {cl : List (Str × Addr)} {pos : Pos} {xs ys : List Val} {Φ : Out → Rho → List Val → Prop}
    (hsrc : Source w k env D ρ σ target iter xs σ₁) (ok : CompOk env scope cl target iter) (see : CompSee env scope cl ρ ρf) (hz : xs.length ≤ 1000000)
    (hrun : ∀ C a, Run w k (compEnvC scope cl C env) ⟨D.m, a :: D.ex⟩ ρf target elt ifs xs σ₁ ys σ₂) (h : Φ .next ((y, .list ys) :: ρ) σ₂)
    (hx : env.kindOf y = some .local ∨ env.kindOf y = some .cell ∧ (env.cells.lookup y).isSome = true)
    (hsw : swapsWith (.ListComp elt [⟨target, iter, ifs, 0⟩] scope pos) (some (.Name y py)) spos.line env = pure true) :
    Ex1 w k env D ρ σ (.Assign [.Name y py] (.ListComp elt [⟨target, iter, ifs, 0⟩] scope pos) spos) Φ := fun A E s B hA S => by
  rw [exec_Assign_Name_used _ _ _ _ hsw]
  refine wpAny_bind (wpAny_standAt (wpAny_bind ?_))
  show wpAny _ A (do let _ ← comprehension (.ListComp elt [⟨target, iter, ifs, 0⟩] scope pos) scope env _ (newList []) false (eval iter env) (some (PySem.assign (.Name y py) env))) _ _ s
  refine wpAny_bind (wpAny_mono (comp_go (use := some (PySem.assign (.Name y py) env)) (Q := fun _ s' => ExPost w B env D Φ s .next s') hsrc hA S ok.1 ok.2.1 ok.2.2.1 ok.2.2.2.1 ok.2.2.2.2.1 see ok.2.2.2.2.2.1 hz hrun ok.2.2.2.2.2.2 (fun a C h' tk m' hn hC hDC hCex hcl hCl r hac p st => ?_)) (fun _ s' hq => wpAny_pure (wpAny_pure hq)) fun _ _ e => e)
  have S' := S.step p st
  have K' := p.keptS S st
  show wpAny _ A (PySem.assign (.Name y py) env (.ref a)) _ _ _
  refine wpAny_assign_Name (store S' hx r fun h₂ tk₂ S₂ K₂ => ?_)
  obtain ⟨oC, es, ep, gC, dC, rC⟩ := hn
  have gC₂ := K₂.1 C oC hCl hDC (fun x q => hcl x C q rfl) gC
  have hn₂ : h₂.Ns C m' := ⟨oC, es, ep, gC₂, dC, rC⟩
  refine ⟨m', hn₂, fun h₃ hs₃ => ?_⟩
  have kk : ∀ b o, b ≠ C → h₂.get? b = some o → h₃.get? b = some o := fun b o n e => (hs₃.2 b n).trans e
  have hBC : B.get? C = none := S.freshB hC
  have S₃ := S₂.butFree kk (Heap.Ns.noSeq hn₂) hCl hcl hBC hCex
  refine ⟨h₃, tk₂, .next, _, _, rfl, (K'.trans K₂).extBut hC kk, True.intro, S₃.store, fun _ => S₃, h⟩

/-! statements with what follows -/
theorem Ex.assign {x : Str} {px pos : Pos} {e : Expr} {v : Val} {rest : List Stmt} {Φ : Out → Rho → List Val → Prop} (he : Ev w k env D ρ σ e v σ₁) (h : Ex w k env D ((x, v) :: ρ) σ₁ rest Φ)
    (hx : env.kindOf x = some .local ∨ env.kindOf x = some .cell ∧ (env.cells.lookup x).isSome = true) (hs : swapsWith e (some (.Name x px)) pos.line env = pure false) : Ex w k env D ρ σ (.Assign [.Name x px] e pos :: rest) Φ :=
  .cons (.assign he h hx hs)
theorem Ex.assignComp {y : Str} {py spos : Pos} {target elt iter : Expr} {ifs : List Expr} {scope : Scope} {cl : List (Str × Addr)} {pos : Pos} {xs ys : List Val} {rest : List Stmt} {Φ : Out → Rho → List Val → Prop}
    (hsrc : Source w k env D ρ σ target iter xs σ₁) (ok : CompOk env scope cl target iter) (see : CompSee env scope cl ρ ρf) (hz : xs.length ≤ 1000000)
    (hrun : ∀ C a, Run w k (compEnvC scope cl C env) ⟨D.m, a :: D.ex⟩ ρf target elt ifs xs σ₁ ys σ₂) (h : Ex w k env D ((y, .list ys) :: ρ) σ₂ rest Φ)
    (hx : env.kindOf y = some .local ∨ env.kindOf y = some .cell ∧ (env.cells.lookup y).isSome = true)
    (hsw : swapsWith (.ListComp elt [⟨target, iter, ifs, 0⟩] scope pos) (some (.Name y py)) spos.line env = pure true) :
    Ex w k env D ρ σ (.Assign [.Name y py] (.ListComp elt [⟨target, iter, ifs, 0⟩] scope pos) spos :: rest) Φ := .cons (.assignComp hsrc ok see hz hrun h hx hsw)
theorem Ex.aug {x : Str} {px pos : Pos} {op : Operator} {e : Expr} {a b v : Int} {rest : List Stmt} {Φ : Out → Rho → List Val → Prop} (hx : ρ.lookup x = some (.int a)) (he : Ev w k env D ρ σ e (.int b) σ₁) (hi : Inp w op a b v) (h : Ex w k env D ((x, .int v) :: ρ) σ₁ rest Φ)
    (hk : env.kindOf x = some .local) : Ex w k env D ρ σ (.AugAssign (.Name x px) op e pos :: rest) Φ := .cons (.aug hx he hi h hk)
theorem Ex.expr {e : Expr} {pos : Pos} {rest : List Stmt} {Φ : Out → Rho → List Val → Prop} (he : Ev w k env D ρ σ e .none σ₁) (h : Ex w k env D ρ σ₁ rest Φ)
    (hi : interactive env = false) (hs : swapsWith e .none pos.line env = pure false) : Ex w k env D ρ σ (.Expr e pos :: rest) Φ := .cons (.expr he h hi hs)
theorem Ex.ret {e : Expr} {pos : Pos} {v : Val} {rest : List Stmt} {Φ : Out → Rho → List Val → Prop} (h : Ev w k env D ρ σ e v σ₁) (hp : Φ (.ret v) ρ σ₁) : Ex w k env D ρ σ (.Return (some e) pos :: rest) Φ := .cons (.ret h hp)
theorem Ex.brk {pos : Pos} {rest : List Stmt} {Φ : Out → Rho → List Val → Prop} (h : Φ .brk ρ σ) : Ex w k env D ρ σ (.Break pos :: rest) Φ := .cons (.brk h)
theorem Ex.ite {t : Expr} {a b : List Stmt} {pos : Pos} {c : Bool} {rest : List Stmt} {Φ : Out → Rho → List Val → Prop} (ht : Tst w k env D ρ σ t c σ₁) (ha : c = true → Ex w k env D ρ σ₁ a (Then w k env D rest Φ)) (hb : c = false → Ex w k env D ρ σ₁ b (Then w k env D rest Φ)) : Ex w k env D ρ σ (.If t a b pos :: rest) Φ := .cons (.ite ht ha hb)
theorem Ex.fin {rest : List Stmt} {Φ : Out → Rho → List Val → Prop} (h : Ex w k env D ρ σ rest Φ) : Ex w k env D ρ σ [] (Then w k env D rest Φ) := .nil h
theorem Ex.brkT {pos : Pos} {more rest : List Stmt} {Φ : Out → Rho → List Val → Prop} (h : Φ .brk ρ σ) : Ex w k env D ρ σ (.Break pos :: more) (Then w k env D rest Φ) := .brk h
theorem Ex.retR {e : Expr} {pos : Pos} {v : Val} {rest : List Stmt} {r : Val} {σf : List Val} (h : Ev w k env D ρ σ e v σ₁) (h1 : v = r) (h2 : σ₁ = σf) : Ex w k env D ρ σ (.Return (some e) pos :: rest) (RetΦ r σf) := .ret h ⟨h1, h2⟩
theorem Ex.retRT {e : Expr} {pos : Pos} {v : Val} {rest more : List Stmt} {r : Val} {σf : List Val} (h : Ev w k env D ρ σ e v σ₁) (h1 : v = r) (h2 : σ₁ = σf) : Ex w k env D ρ σ (.Return (some e) pos :: rest) (Then w k env D more (RetΦ r σf)) := .ret h ⟨h1, h2⟩
theorem Ex.loopEnd {J : Rho → List Val → Prop} {Φ : Out → Rho → List Val → Prop} (h : J ρ σ) : Ex w k env D ρ σ [] (LoopΦ J Φ) := .nil h
theorem Ex.setM {o i e : Expr} {p' pos : Pos} {n : Int} {v : Val} {rest : List Stmt} {Φ : Out → Rho → List Val → Prop} (he : Ev w k env D ρ σ e v σ₁) (ho : Ev w k env D ρ σ₁ o .cell σ₂) (hi : Ev w k env D ρ σ₂ i (.int n) σ₃) (h0 : 0 ≤ n) (h1 : n < σ₃.length) (hz : σ₃.length ≤ 1000000)
    (h : Ex w k env D ρ (σ₃.set n.toNat v) rest Φ) (hs : swapsWith e (some (.Subscript o i p')) pos.line env = pure false) : Ex w k env D ρ σ (.Assign [.Subscript o i p'] e pos :: rest) Φ := .cons (.setM he ho hi h0 h1 hz h hs)
theorem Ex.augM {o i e : Expr} {p' pos : Pos} {op : Operator} {n a b r : Int} {rest : List Stmt} {Φ : Out → Rho → List Val → Prop} (ho : Ev w k env D ρ σ o .cell σ) (hi : Ev w k env D ρ σ i (.int n) σ) (h0 : 0 ≤ n) (hx : σ[n.toNat]? = some (.int a)) (he : Ev w k env D ρ σ e (.int b) σ) (hop : Inp w op a b r) (hz : σ.length ≤ 1000000)
    (h : Ex w k env D ρ (σ.set n.toNat (.int r)) rest Φ) (ha : ∀ ov iv new, augStore i ov iv new = (do holding [new, ov, iv] (setItem ov iv new); release [new, ov, iv] []; pure .next)) :
    Ex w k env D ρ σ (.AugAssign (.Subscript o i p') op e pos :: rest) Φ := .cons (.augM ho hi h0 hx he hop hz h ha)

end
end

section
open PySem PySem.Spec PySem.Calls PySem.W PyProof.Rows
section
variable {w : World} {k : Nat} {B : Heap} {env : Env} {D : Dm} {ρ ρf : Rho} {σ σ₁ σ₂ σ₃ : List Val}
theorem Alls.or {e : Expr} {es : List Expr} {b c : Bool} (h : Tst w k env D ρ σ e b σ) (r : b = false → Alls w k env D ρ σ .Or es c σ) : Alls w k env D ρ σ .Or (e :: es) (b || c) σ := by
  cases b with
  | true => exact .orT h
  | false => exact .orF h (r rfl)
theorem Alls.and {e : Expr} {es : List Expr} {b c : Bool} (h : Tst w k env D ρ σ e b σ) (r : b = true → Alls w k env D ρ σ .And es c σ) : Alls w k env D ρ σ .And (e :: es) (b && c) σ := by
  cases b with
  | false => exact .andF h
  | true => exact .andT h (r rfl)
theorem Alls.or1 {e : Expr} {b : Bool} (h : Tst w k env D ρ σ e b σ) : Alls w k env D ρ σ .Or [e] b σ := by
  have := Alls.or h fun _ => .orN
  rwa [Bool.or_false] at this
theorem Alls.and1 {e : Expr} {b : Bool} (h : Tst w k env D ρ σ e b σ) : Alls w k env D ρ σ .And [e] b σ := by
  have := Alls.and h fun _ => .andN
  rwa [Bool.and_true] at this
theorem Ex.unpack2 {a b : Str} {pa pb tp pos : Pos} {kd : Nat} {e : Expr} {va vb : Val} {rest : List Stmt} {Φ : Out → Rho → List Val → Prop} (he : Ev w k env D ρ σ e (.tup [va, vb]) σ₁) (h : Ex w k env D ((b, vb) :: (a, va) :: ρ) σ₁ rest Φ)
    (ha : NameOk env a) (hb : NameOk env b)
    (hs : swapsWithSole [.Tuple [.Name a pa, .Name b pb] kd tp] e pos.line env = pure false)
    (hw : swappedStores [.Tuple [.Name a pa, .Name b pb] kd tp] e env = pure .none)
    (hE : assignEach [.Name a pa, .Name b pb] env = [(false, PySem.assign (.Name a pa) env), (false, PySem.assign (.Name b pb) env)]) :
    Ex w k env D ρ σ (.Assign [.Tuple [.Name a pa, .Name b pb] kd tp] e pos :: rest) Φ := .cons (.unpack2 he h ha hb hs hw hE)
theorem Ex.unpack3 {a b c : Str} {pa pb pc tp pos : Pos} {kd : Nat} {e : Expr} {va vb vc : Val} {rest : List Stmt} {Φ : Out → Rho → List Val → Prop} (he : Ev w k env D ρ σ e (.tup [va, vb, vc]) σ₁) (h : Ex w k env D ((c, vc) :: (b, vb) :: (a, va) :: ρ) σ₁ rest Φ)
    (ha : NameOk env a) (hb : NameOk env b) (hc : NameOk env c)
    (hs : swapsWithSole [.Tuple [.Name a pa, .Name b pb, .Name c pc] kd tp] e pos.line env = pure false)
    (hw : swappedStores [.Tuple [.Name a pa, .Name b pb, .Name c pc] kd tp] e env = pure .none)
    (hE : assignEach [.Name a pa, .Name b pb, .Name c pc] env = [(false, PySem.assign (.Name a pa) env), (false, PySem.assign (.Name b pb) env), (false, PySem.assign (.Name c pc) env)]) :
    Ex w k env D ρ σ (.Assign [.Tuple [.Name a pa, .Name b pb, .Name c pc] kd tp] e pos :: rest) Φ := .cons (.unpack3 he h ha hb hc hs hw hE)
theorem Ex.swap2 {a b : Str} {ts : List Expr} {tp pos : Pos} {kd : Nat} {e : Expr} {va vb : Val} {rest : List Stmt} {Φ : Out → Rho → List Val → Prop} (he : Ev w k env D ρ σ e (.tup [va, vb]) σ₁)
    (ha : NameOk env a) (hb : NameOk env b)
    (hs : swapsWithSole [.Tuple ts kd tp] e pos.line env = pure false)
    (hw : swappedStores [.Tuple ts kd tp] e env = pure (some [a, b])) (h : Ex w k env D ((a, va) :: (b, vb) :: ρ) σ₁ rest Φ) :
    Ex w k env D ρ σ (.Assign [.Tuple ts kd tp] e pos :: rest) Φ := .cons (.swap2 he h ha hb hs hw)
theorem Ex.while {t : Expr} {body : List Stmt} {pos : Pos} {rest : List Stmt} {Φ : Out → Rho → List Val → Prop} (J : Nat → Rho → List Val → Prop) (n₀ : Nat) (h0 : J n₀ ρ σ)
    (turn : ∀ n ρ' σ', J n ρ' σ' → ∃ b, Tst w k env D ρ' σ' t b σ' ∧
      (b = true → Ex w k env D ρ' σ' body (LoopΦ (fun ρ₁ σ₁ => ∃ m, m < n ∧ J m ρ₁ σ₁) (Then w k env D rest Φ))) ∧ (b = false → Ex w k env D ρ' σ' rest Φ)) :
    Ex w k env D ρ σ (.While t body [] pos :: rest) Φ := .cons (.while J n₀ h0 fun n ρ' σ' h => let ⟨b, h1, h2, h3⟩ := turn n ρ' σ' h; ⟨b, σ', h1, h2, h3⟩)
theorem Ex.forL {x : Str} {px pos : Pos} {iter : Expr} {body : List Stmt} {xs : List Val} {rest : List Stmt} {Φ : Out → Rho → List Val → Prop} (J : Nat → Rho → List Val → Prop) (hi : Ev w k env D ρ σ iter (.list xs) σ₁) (h0 : J 0 ρ σ₁)
    (turn : ∀ i v ρ' σ', xs[i]? = some v → J i ρ' σ' → Ex w k env D ((x, v) :: ρ') σ' body (LoopΦ (J (i + 1)) (Then w k env D rest Φ)))
    (done : ∀ ρ' σ', J xs.length ρ' σ' → Ex w k env D ρ' σ' rest Φ)
    (hx : NameOk env x) (hs : ∀ x, foldedSetIterable iter env x = pure x) : Ex w k env D ρ σ (.For (.Name x px) iter body [] pos :: rest) Φ := .cons (.forL J hi h0 turn done hx hs)
/-- behind an if whose ways meet -/
noncomputable def JoinΦ (J : Rho → List Val → Prop) (Φ : Out → Rho → List Val → Prop) : Out → Rho → List Val → Prop
  | .next, ρ', σ' => J ρ' σ'
  | o, ρ', σ' => Φ o ρ' σ'
theorem Ex.join {J : Rho → List Val → Prop} {Φ : Out → Rho → List Val → Prop} (h : J ρ σ) : Ex w k env D ρ σ [] (JoinΦ J Φ) := .nil h
theorem Ex.ifJ {t : Expr} {a b : List Stmt} {pos : Pos} {c : Bool} {rest : List Stmt} {Φ : Out → Rho → List Val → Prop} (J : Rho → List Val → Prop) (ht : Tst w k env D ρ σ t c σ₁) (ha : c = true → Ex w k env D ρ σ₁ a (JoinΦ J Φ)) (hb : c = false → Ex w k env D ρ σ₁ b (JoinΦ J Φ))
    (hr : ∀ ρ' σ', J ρ' σ' → Ex w k env D ρ' σ' rest Φ) : Ex w k env D ρ σ (.If t a b pos :: rest) Φ := by
  have m : ∀ o ρ' σ', JoinΦ J Φ o ρ' σ' → Then w k env D rest Φ o ρ' σ' := fun o ρ' σ' q => by
    cases o with
    | next => exact hr ρ' σ' q
    | brk => exact q
    | cont => exact q
    | ret v => exact q
    | retNew v => exact q
  exact .ite ht (fun c => (ha c).mono m) (fun c => (hb c).mono m)

/-! a def that needs no mutable list -/
theorem Rep.from_some {c : Addr} {ex : List Addr} {h : Heap} : ∀ {v : Val} {u : Value}, Rep ⟨.none, c :: ex⟩ h v u → Rep ⟨some c, ex⟩ h v u := fun r =>
  Rep.keepX (D := ⟨.none, c :: ex⟩) (D' := ⟨some c, ex⟩) (fun _ e => by cases e) (fun a o n e _ => ⟨e, fun q => n.2 (by cases q; exact .head _), fun q => n.2 (.tail _ q)⟩) r
mutual
noncomputable def Val.nc : Val → Bool
  | .cell => false
  | .tup xs => ncs xs
  | .list xs => ncs xs
  | _ => true
noncomputable def ncs : List Val → Bool
  | [] => true
  | x :: xs => x.nc && ncs xs
end
mutual
theorem Rep.to_none {c : Addr} {ex : List Addr} {h : Heap} : ∀ {v : Val} {u : Value}, v.nc = true → Rep ⟨some c, ex⟩ h v u → Rep ⟨.none, c :: ex⟩ h v u
  | .none, _, _, r => r
  | .bool _, _, _, r => r
  | .int _, _, _, r => r
  | .str _, _, _, r => r
  | .cell, _, h, _ => by cases h
  | .tup xs, _, hn, ⟨a, us, e, n, i, r⟩ => ⟨a, us, e, ⟨(fun q => by cases q), fun q => (List.mem_cons.mp q).elim (fun q => n.1 (by rw [q])) n.2⟩, i, RepL.to_none (by simpa [Val.nc] using hn) r⟩
  | .list xs, _, hn, ⟨a, us, e, n, i, r⟩ => ⟨a, us, e, ⟨(fun q => by cases q), fun q => (List.mem_cons.mp q).elim (fun q => n.1 (by rw [q])) n.2⟩, i, RepL.to_none (by simpa [Val.nc] using hn) r⟩
theorem RepL.to_none {c : Addr} {ex : List Addr} {h : Heap} : ∀ {vs : List Val} {us : List Value}, ncs vs = true → RepL ⟨some c, ex⟩ h vs us → RepL ⟨.none, c :: ex⟩ h vs us
  | [], _, _, r => r
  | v :: vs, _, hn, ⟨u, r, e, h1, h2⟩ => by
    simp only [ncs, Bool.and_eq_true] at hn
    exact ⟨u, r, e, h1.to_none hn.1, h2.to_none hn.2⟩
end
theorem Fn.lift {c : Addr} {ex : List Addr} {f : Addr} {args : List Val} {r : Val} (h : Fn w k f ⟨.none, c :: ex⟩ args [] r []) (hn : ncs args = true) : Fn w k f ⟨some c, ex⟩ args σ r σ := fun A E s us hA hB ha st => by
  obtain ⟨B, W, keepB, newD, szB⟩ := hB
  refine wpAny_mono (h A E s us hA ⟨B, W, keepB, (fun c q => by cases q), szB⟩ (ha.to_none hn) ⟨fun a q => ?_, fun c q => by cases q⟩) (fun v s' ⟨p, r, st'⟩ => ⟨p.of_none, r.from_some, st.kept p.heap.all⟩) fun _ _ e => e
  rcases List.mem_cons.mp q with q | q
  · obtain ⟨us, n, g, _⟩ := st.cell rfl
    rw [q, g]; intro z; cases z
  · exact st.1 a q
end
end

section
open PySem PySem.Spec PySem.Calls PySem.W PyProof.Rows
theorem filled {w : World} {P : Prop} (h : hd.heap_39 w.params = hd.heap_39 w.params → PySem.Challenge.rw_no0500_01.row.prog = PySem.Challenge.rw_no0500_01.row.prog → P) : P := h rfl rfl
theorem bi_abs {w : World} : IsBi w "abs" (.builtin "abs") := by
  refine filled (w := w) ?_
  k_fill
  intro _ _
  refine ⟨?_, ?_, ?_⟩
  · k_is
  · with_unfolding_all rfl
  · decide
theorem bi_len {w : World} : IsBi w "len" (.builtin "len") := by
  refine filled (w := w) ?_
  k_fill
  intro _ _
  refine ⟨?_, ?_, ?_⟩
  · k_is
  · with_unfolding_all rfl
  · decide
theorem bi_max {w : World} : IsBi w "max" (.builtin "max") := by
  refine filled (w := w) ?_
  k_fill
  intro _ _
  refine ⟨?_, ?_, ?_⟩
  · k_is
  · with_unfolding_all rfl
  · decide
theorem bi_divmod {w : World} : IsBi w "divmod" (.builtin "divmod") := by
  refine filled (w := w) ?_
  k_fill
  intro _ _
  refine ⟨?_, ?_, ?_⟩
  · k_is
  · with_unfolding_all rfl
  · decide
theorem bi_str {w : World} : IsBi w "str" (.type "str") := by
  refine filled (w := w) ?_
  k_fill
  intro _ _
  refine ⟨?_, ?_, ?_⟩
  · k_is
  · with_unfolding_all rfl
  · decide
theorem bi_int {w : World} : IsBi w "int" (.type "int") := by
  refine filled (w := w) ?_
  k_fill
  intro _ _
  refine ⟨?_, ?_, ?_⟩
  · k_is
  · with_unfolding_all rfl
  · decide
theorem bi_range {w : World} : IsBi w "range" (.type "range") := by
  refine filled (w := w) ?_
  k_fill
  intro _ _
  refine ⟨?_, ?_, ?_⟩
  · k_is
  · with_unfolding_all rfl
  · decide
theorem is_nearest_whole {w : World} : IsFn w "nearest_whole" 21 := by
  refine filled (w := w) ?_
  k_fill
  intro _ _
  refine ⟨?_, ?_⟩
  · k_is
  · k_is
theorem is_exponent {w : World} : IsFn w "exponent" 28 := by
  refine filled (w := w) ?_
  k_fill
  intro _ _
  refine ⟨?_, ?_⟩
  · k_is
  · k_is
theorem is_whole_text {w : World} : IsFn w "whole_text" 35 := by
  refine filled (w := w) ?_
  k_fill
  intro _ _
  refine ⟨?_, ?_⟩
  · k_is
  · k_is
theorem is_special_text {w : World} : IsFn w "special_text" 42 := by
  refine filled (w := w) ?_
  k_fill
  intro _ _
  refine ⟨?_, ?_⟩
  · k_is
  · k_is
theorem is_scaled {w : World} : IsFn w "scaled" 49 := by
  refine filled (w := w) ?_
  k_fill
  intro _ _
  refine ⟨?_, ?_⟩
  · k_is
  · k_is
theorem is_significant {w : World} : IsFn w "significant" 56 := by
  refine filled (w := w) ?_
  k_fill
  intro _ _
  refine ⟨?_, ?_⟩
  · k_is
  · k_is
theorem is_without_tail {w : World} : IsFn w "without_tail" 63 := by
  refine filled (w := w) ?_
  k_fill
  intro _ _
  refine ⟨?_, ?_⟩
  · k_is
  · k_is
theorem is_needed {w : World} : IsFn w "needed" 70 := by
  refine filled (w := w) ?_
  k_fill
  intro _ _
  refine ⟨?_, ?_⟩
  · k_is
  · k_is
theorem is_scientific_text {w : World} : IsFn w "scientific_text" 77 := by
  refine filled (w := w) ?_
  k_fill
  intro _ _
  refine ⟨?_, ?_⟩
  · k_is
  · k_is
theorem is_fixed_text {w : World} : IsFn w "fixed_text" 84 := by
  refine filled (w := w) ?_
  k_fill
  intro _ _
  refine ⟨?_, ?_⟩
  · k_is
  · k_is
theorem is_measures {w : World} : IsFn w "measures" 91 := by
  refine filled (w := w) ?_
  k_fill
  intro _ _
  refine ⟨?_, ?_⟩
  · k_is
  · k_is
theorem is_chosen_form {w : World} : IsFn w "chosen_form" 98 := by
  refine filled (w := w) ?_
  k_fill
  intro _ _
  refine ⟨?_, ?_⟩
  · k_is
  · k_is
theorem is_formed {w : World} : IsFn w "formed" 105 := by
  refine filled (w := w) ?_
  k_fill
  intro _ _
  refine ⟨?_, ?_⟩
  · k_is
  · k_is
theorem is_common_texts {w : World} : IsFn w "common_texts" 110 := by
  refine filled (w := w) ?_
  k_fill
  intro _ _
  refine ⟨?_, ?_⟩
  · k_is
  · k_is
theorem is_number_text {w : World} : IsFn w "number_text" 118 := by
  refine filled (w := w) ?_
  k_fill
  intro _ _
  refine ⟨?_, ?_⟩
  · k_is
  · k_is
theorem is_l_pool {w : World} : IsFn w "_law_pool" 125 := by
  refine filled (w := w) ?_
  k_fill
  intro _ _
  refine ⟨?_, ?_⟩
  · k_is
  · k_is
theorem is_l_pick {w : World} : IsFn w "_law_pick" 132 := by
  refine filled (w := w) ?_
  k_fill
  intro _ _
  refine ⟨?_, ?_⟩
  · k_is
  · k_is
theorem is_l_near {w : World} : IsFn w "_law_near" 139 := by
  refine filled (w := w) ?_
  k_fill
  intro _ _
  refine ⟨?_, ?_⟩
  · k_is
  · k_is
theorem is_l_scaled {w : World} : IsFn w "_law_scaled" 146 := by
  refine filled (w := w) ?_
  k_fill
  intro _ _
  refine ⟨?_, ?_⟩
  · k_is
  · k_is
theorem is_l_shape {w : World} : IsFn w "_law_shape" 153 := by
  refine filled (w := w) ?_
  k_fill
  intro _ _
  refine ⟨?_, ?_⟩
  · k_is
  · k_is
theorem is_l_count {w : World} : IsFn w "_law_count" 160 := by
  refine filled (w := w) ?_
  k_fill
  intro _ _
  refine ⟨?_, ?_⟩
  · k_is
  · k_is
theorem is_l_fixed {w : World} : IsFn w "_law_fixed" 167 := by
  refine filled (w := w) ?_
  k_fill
  intro _ _
  refine ⟨?_, ?_⟩
  · k_is
  · k_is
theorem is_l_science {w : World} : IsFn w "_law_science" 174 := by
  refine filled (w := w) ?_
  k_fill
  intro _ _
  refine ⟨?_, ?_⟩
  · k_is
  · k_is
theorem is_l_special {w : World} : IsFn w "_law_special" 181 := by
  refine filled (w := w) ?_
  k_fill
  intro _ _
  refine ⟨?_, ?_⟩
  · k_is
  · k_is
theorem is_l_texts {w : World} : IsFn w "_law_texts" 186 := by
  refine filled (w := w) ?_
  k_fill
  intro _ _
  refine ⟨?_, ?_⟩
  · k_is
  · k_is
theorem is_l_double {w : World} : IsFn w "_law_double" 193 := by
  refine filled (w := w) ?_
  k_fill
  intro _ _
  refine ⟨?_, ?_⟩
  · k_is
  · k_is
end

open PySem PySem.Spec PySem.Calls PySem.W PyProof.Rows
set_option compiler.extract_closed false
/-- where the text's defs stand -/
noncomputable def fnTab : List (Str × Addr) := [("nearest_whole", 21), ("exponent", 28), ("whole_text", 35), ("special_text", 42), ("scaled", 49), ("significant", 56), ("without_tail", 63), ("needed", 70), ("scientific_text", 77), ("fixed_text", 84), ("measures", 91), ("chosen_form", 98), ("formed", 105), ("common_texts", 110), ("number_text", 118), ("_law_pool", 125), ("_law_pick", 132), ("_law_near", 139), ("_law_scaled", 146), ("_law_shape", 153), ("_law_count", 160), ("_law_fixed", 167), ("_law_science", 174), ("_law_special", 181), ("_law_texts", 186), ("_law_double", 193)]
theorem fnTab_ok {w : World} : ∀ p ∈ fnTab, IsFn w p.1 p.2 := (List.forall_mem_cons.2 ⟨is_nearest_whole, (List.forall_mem_cons.2 ⟨is_exponent, (List.forall_mem_cons.2 ⟨is_whole_text, (List.forall_mem_cons.2 ⟨is_special_text, (List.forall_mem_cons.2 ⟨is_scaled, (List.forall_mem_cons.2 ⟨is_significant, (List.forall_mem_cons.2 ⟨is_without_tail, (List.forall_mem_cons.2 ⟨is_needed, (List.forall_mem_cons.2 ⟨is_scientific_text, (List.forall_mem_cons.2 ⟨is_fixed_text, (List.forall_mem_cons.2 ⟨is_measures, (List.forall_mem_cons.2 ⟨is_chosen_form, (List.forall_mem_cons.2 ⟨is_formed, (List.forall_mem_cons.2 ⟨is_common_texts, (List.forall_mem_cons.2 ⟨is_number_text, (List.forall_mem_cons.2 ⟨is_l_pool, (List.forall_mem_cons.2 ⟨is_l_pick, (List.forall_mem_cons.2 ⟨is_l_near, (List.forall_mem_cons.2 ⟨is_l_scaled, (List.forall_mem_cons.2 ⟨is_l_shape, (List.forall_mem_cons.2 ⟨is_l_count, (List.forall_mem_cons.2 ⟨is_l_fixed, (List.forall_mem_cons.2 ⟨is_l_science, (List.forall_mem_cons.2 ⟨is_l_special, (List.forall_mem_cons.2 ⟨is_l_texts, (List.forall_mem_cons.2 ⟨is_l_double, (fun _ h => (List.not_mem_nil h).elim)⟩)⟩)⟩)⟩)⟩)⟩)⟩)⟩)⟩)⟩)⟩)⟩)⟩)⟩)⟩)⟩)⟩)⟩)⟩)⟩)⟩)⟩)⟩)⟩)⟩)⟩)
theorem isFn {w : World} {x : Str} {f : Addr} (h : fnTab.lookup x = some f) : IsFn w x f := fnTab_ok _ (lookup_mem h)
theorem Ev.iteI {w : World} {k : Nat} {env : Env} {D : Dm} {ρ : Rho} {σ σ₁ σ₂ : List Val} {t a b : Expr} {pos : Pos} {v v' : Int} {c : Bool} (ht : Tst w k env D ρ σ t c σ₁) (ha : c = true → Ev w k env D ρ σ₁ a (.int v) σ₂) (hb : c = false → Ev w k env D ρ σ₁ b (.int v') σ₂) :
    Ev w k env D ρ σ (.IfExp t a b pos) (.int (if c = true then v else v')) σ₂ := by
  cases c with
  | true => exact Ev.ifT ht (ha rfl)
  | false => exact Ev.ifF ht (hb rfl)
theorem Ev.iteS {w : World} {k : Nat} {env : Env} {D : Dm} {ρ : Rho} {σ σ₁ σ₂ : List Val} {t a b : Expr} {pos : Pos} {v v' : Str} {c : Bool} (ht : Tst w k env D ρ σ t c σ₁) (ha : c = true → Ev w k env D ρ σ₁ a (.str v) σ₂) (hb : c = false → Ev w k env D ρ σ₁ b (.str v') σ₂) :
    Ev w k env D ρ σ (.IfExp t a b pos) (.str (if c = true then v else v')) σ₂ := by
  cases c with
  | true => exact Ev.ifT ht (ha rfl)
  | false => exact Ev.ifF ht (hb rfl)
/-- a text of so many signs at most -/
def Sm (n : Nat) (x : Str) : Prop := x.length ≤ n
theorem Sm.app {m n : Nat} {a b : Str} (ha : Sm m a) (hb : Sm n b) : Sm (m + n) (a ++ b) := by
  have : (a ++ b).length = a.length + b.length := by
    show (Str.mk (a.cps ++ b.cps)).length = _
    simp [Str.length]
  unfold Sm at *; omega
theorem Sm.ite {m n : Nat} {a b : Str} {c : Prop} [Decidable c] (ha : Sm m a) (hb : Sm n b) : Sm (m + n) (if c then a else b) := by
  unfold Sm at *; split <;> omega
theorem Sm.item {x : Str} {i : Int} : Sm 1 (Txt.item x i) := Nat.le_refl 1
theorem Sm.slice {m : Nat} {x : Str} {l u : Option Int} (h : Sm m x) : Sm m (Txt.slice x l u) := Nat.le_trans (Txt.slice_le x l u) h
theorem Sm.lit {s : String} (h : (Str.ofString s).length ≤ 20) : Sm 20 (Str.ofString s) := h
theorem Sm.rjust {m : Nat} {x : Str} {i : Int} {c : Nat} (h : Sm m x) : Sm (m + i.toNat) (Txt.rjustF x i c) := by
  unfold Sm at *
  unfold Txt.rjustF Builtin.Str.padded
  split
  · omega
  · simp [Str.length] at *; omega
theorem sz_add {m n : Nat} {a b : Str} (ha : Sm m a) (hb : Sm n b) (h : m + n ≤ 16777216) : a.length + b.length ≤ sizeLine := by
  unfold Sm at *
  rw [sizeLine_eq]; omega
theorem sz_one {m : Nat} {a : Str} (ha : Sm m a) (h : m ≤ 16777216) : a.length ≤ sizeLine := by
  unfold Sm at *
  rw [sizeLine_eq]; omega
theorem sz_len {m : Nat} {a : Str} (ha : Sm m a) (h : m ≤ 16777216) : a.length < 2 ^ 62 := by
  unfold Sm at *; omega
local macro_rules | `(tactic| wtm_at "v_sm") => `(tactic| with_reducible first | assumption | (apply Sm.app; wtm_at "v_sm"; wtm_at "v_sm") | (apply Sm.ite; wtm_at "v_sm"; wtm_at "v_sm") | exact Sm.item | (apply Sm.slice; wtm_at "v_sm") | (apply Sm.rjust; wtm_at "v_sm") | (apply Sm.lit; with_unfolding_all decide +kernel))
/-- a name's value -/
abbrev At (ρ : Rho) (x : Str) (v : Val) : Prop := List.lookup x ρ = some v
local macro_rules | `(tactic| wtm_at "v_rfl") => `(tactic| with_unfolding_all rfl)
local macro_rules | `(tactic| wtm_at "v_len") => `(tactic| with_unfolding_all exact Nat.le_of_ble_eq_true rfl)
local macro_rules | `(tactic| wtm_at "v_at") => `(tactic| first | with_unfolding_all rfl | with_reducible assumption | with_unfolding_all assumption)
local macro_rules | `(tactic| wtm_at "v_side") => `(tactic| first | with_reducible assumption | with_unfolding_all assumption | with_unfolding_all decide | with_unfolding_all omega | with_unfolding_all (simp only [decide_eq_true_eq, decide_eq_false_iff_not] at *; omega) | (with_reducible apply sz_add; wtm_at "v_sm"; wtm_at "v_sm"; with_unfolding_all decide) | (with_reducible apply sz_one; wtm_at "v_sm"; with_unfolding_all decide) | (with_reducible apply sz_len; wtm_at "v_sm"; with_unfolding_all decide))
local macro_rules | `(tactic| wtm_at "v_fill") => `(tactic| (refine filled (w := ‹World›) ?_; k_fill; intro _ _))
local macro_rules | `(tactic| wtm_at "v_kd") => `(tactic| with_unfolding_all first | exact .inl rfl | exact .inr ⟨rfl, rfl⟩)
local macro_rules | `(tactic| wtm_at "v_bin") => `(tactic| with_reducible first | exact Bin.addI | exact Bin.subI | exact Bin.subB | (apply Bin.mulI; wtm_at "v_side") | (apply Bin.divI; wtm_at "v_side"; wtm_at "v_side") | (apply Bin.modI; wtm_at "v_side") | (apply Bin.powI; wtm_at "v_side"; wtm_at "v_side") | (apply Bin.addS; wtm_at "v_side") | (apply Bin.mulS; wtm_at "v_side") | (apply Bin.addL; wtm_at "v_side"))
local macro_rules | `(tactic| wtm_at "v_cmp") => `(tactic| with_reducible first | exact Cmp.gt | exact Cmp.lt | exact Cmp.ge | exact Cmp.le | exact Cmp.eqI | exact Cmp.neI | exact Cmp.eqS | exact Cmp.neS | exact Cmp.isN | exact Cmp.isNotN)
local macro_rules | `(tactic| wtm_at "v_isbi") => `(tactic| with_reducible first | exact bi_abs | exact bi_len | exact bi_max | exact bi_divmod | exact bi_str | exact bi_int | exact bi_range)
local macro_rules | `(tactic| wtm_at "v_isfn") => `(tactic| (apply isFn; wtm_at "v_rfl"))
local macro_rules | `(tactic| wtm_at "v_bif") => `(tactic| with_reducible first | exact Bif.abs | exact Bif.max2 | exact Bif.int_int | (apply Bif.divmod; wtm_at "v_side"; wtm_at "v_side") | (apply Bif.str_int; wtm_at "v_side") | (apply Bif.len_str; wtm_at "v_side") | (apply Bif.len_list; wtm_at "v_side") | (apply Bif.len_mut; wtm_at "v_side") | (apply Bif.rjust; wtm_at "v_side"; wtm_at "v_side") | (apply Bif.rstrip; wtm_at "v_side") | (apply Bif.joinM; wtm_at "v_side"; wtm_at "v_side"))
local macro_rules | `(tactic| wtm_at "v_fn") => `(tactic| first | with_reducible assumption | with_unfolding_all assumption)
local macro_rules | `(tactic| wtm_at "v_get") => `(tactic| first | with_unfolding_all rfl | assumption)
local macro_rules | `(tactic| wtm_at "v_syn") => `(tactic| first | wtm_at "v_rfl" | decide | wtm_at "v_len" | (intro _ _; wtm_at "v_rfl") | (intro _ _ _; wtm_at "v_rfl") | (intro _; wtm_at "v_rfl"))
local macro_rules | `(tactic| wtm_at "v_evs") => `(tactic| (with_reducible first
  | exact Evs.nil
  | (refine' Evs.cons ?e1 ?e2 ?_; (case e1 => wtm_at "v_ev"); (case e2 => wtm_at "v_evs"); all_goals wtm_at "v_syn")))
local macro_rules | `(tactic| wtm_at "v_ev") => `(tactic| (with_reducible first
  | exact Ev.int | exact Ev.str | exact Ev.none | (refine' Ev.name ?n ?_ ?_; (case n => wtm_at "v_at"); all_goals wtm_at "v_syn")
  | (refine' Ev.bin ?e1 ?e2 ?e3; (case e1 | e2 => wtm_at "v_ev"); (case e3 => wtm_at "v_bin"))
  | (refine' Ev.neg ?e1; (case e1 => wtm_at "v_ev"))
  | (refine' Ev.cmp ?e1 ?e2 ?e3 ?_; (case e1 | e2 => wtm_at "v_ev"); (case e3 => wtm_at "v_cmp"); all_goals wtm_at "v_syn")
  | (refine' Ev.tup ?e1 ?_; (case e1 => wtm_at "v_evs"); all_goals wtm_at "v_syn")
  | (refine' Ev.list ?e1 ?_; (case e1 => wtm_at "v_evs"); all_goals wtm_at "v_syn")
  | (refine' Ev.bif ?e1 ?e2 ?e3 ?_ ?_ ?_ ?_; (case e1 => wtm_at "v_isbi"); (case e2 => wtm_at "v_evs"); (case e3 => wtm_at "v_bif"); all_goals wtm_at "v_syn")
  | (refine' Ev.bty ?e1 ?e2 ?e3 ?_ ?_ ?_ ?_; (case e1 => wtm_at "v_isbi"); (case e2 => wtm_at "v_evs"); (case e3 => wtm_at "v_bif"); all_goals wtm_at "v_syn")
  | (refine' Ev.call ?e1 ?e2 ?e3 ?_ ?_ ?_ ?_ ?_; (case e1 => wtm_at "v_isfn"); (case e2 => wtm_at "v_evs"); (case e3 => wtm_at "v_fn"); all_goals wtm_at "v_syn")
  | (refine' Ev.smeth ?e1 ?e2 ?e3 ?e4 ?e5 ?_ ?_ ?_ ?_ ?_; (case e1 => first | exact PySem.F.slot_str_rjust | exact PySem.F.slot_str_rstrip | exact PySem.F.slot_str_join); (case e2 => first | exact PySem.F.type_str_rjust | exact PySem.F.type_str_rstrip | exact PySem.F.type_str_join); (case e3 => wtm_at "v_ev"); (case e4 => wtm_at "v_evs"); (case e5 => wtm_at "v_bif"); all_goals wtm_at "v_syn")
  | (refine' Ev.append ?e1 ?e2 ?e3 ?_ ?_ ?_ ?_; (case e1 | e2 => wtm_at "v_ev"); (case e3 => wtm_at "v_side"); all_goals wtm_at "v_syn")
  | (refine' Ev.reverse ?e1 ?e2 ?_ ?_ ?_; (case e1 => wtm_at "v_ev"); (case e2 => wtm_at "v_side"); all_goals wtm_at "v_syn")
  | (refine' Ev.itemT ?e1 ?e2 ?_ ?e4 ?_ ?_; (case e1 | e2 => wtm_at "v_ev"); (case e4 => wtm_at "v_get"); all_goals wtm_at "v_syn")
  | (refine' Ev.itemS ?e1 ?e2 ?e3 ?e4 ?e5 ?_ ?_; (case e1 | e2 => wtm_at "v_ev"); (case e3 | e4 | e5 => wtm_at "v_side"); all_goals wtm_at "v_syn")
  | (refine' Ev.itemM ?e1 ?e2 ?e3 ?e4 ?e5 ?_; (case e1 | e2 => wtm_at "v_ev"); (case e4 => wtm_at "v_get"); (case e3 | e5 => wtm_at "v_side"); all_goals wtm_at "v_syn")
  | (refine' Ev.sliceS ?e1 ?e2 ?e3 ?e4 ?_; (case e1 => wtm_at "v_ev"); (case e4 => wtm_at "v_side"); (case e2 | e3 => first | exact Part.none | (refine' Part.some ?e1; (case e1 => wtm_at "v_ev"))); all_goals wtm_at "v_syn")
  | (refine' Ev.iteI ?e1 (fun _ => ?e2) (fun _ => ?e3); (case e1 => wtm_at "v_tst"); (case e2 | e3 => wtm_at "v_ev"))
  | (refine' Ev.iteS ?e1 (fun _ => ?e2) (fun _ => ?e3); (case e1 => wtm_at "v_tst"); (case e2 | e3 => wtm_at "v_ev"))
  | fail "no value"))
local macro_rules | `(tactic| wtm_at "v_alls") => `(tactic| (with_reducible first
  | (refine' Alls.or1 ?e1; (case e1 => wtm_at "v_tst"))
  | (refine' Alls.and1 ?e1; (case e1 => wtm_at "v_tst"))
  | (refine' Alls.or ?e1 (fun _ => ?e2); (case e1 => wtm_at "v_tst"); (case e2 => wtm_at "v_alls"))
  | (refine' Alls.and ?e1 (fun _ => ?e2); (case e1 => wtm_at "v_tst"); (case e2 => wtm_at "v_alls"))))
local macro_rules | `(tactic| wtm_at "v_tst") => `(tactic| (with_reducible first
  | (refine' Tst.cmp ?e1 ?e2 ?e3 ?e4; (case e1 | e2 => wtm_at "v_ev"); (case e3 => wtm_at "v_cmp"); (case e4 => wtm_at "v_rfl"))
  | (refine' Tst.bop ?e1; (case e1 => wtm_at "v_alls"))))
local macro_rules | `(tactic| wtm_at "v_asg") => `(tactic| (with_reducible refine' Ex.assign ?e ?_ ?kx ?ks; (case e => wtm_at "v_ev"); (case kx => wtm_at "v_kd"); (case ks => wtm_at "v_rfl")))
local macro_rules | `(tactic| wtm_at "v_aug") => `(tactic| (with_reducible refine' Ex.aug ?h ?e ?i ?_ ?k; (case h => wtm_at "v_at"); (case e => wtm_at "v_ev"); (case i => with_reducible first | exact Inp.add | exact Inp.sub | (refine Inp.div ?s1 ?s2; (case s1 | s2 => wtm_at "v_side"))); (case k => wtm_at "v_rfl")))
local macro_rules | `(tactic| wtm_at "v_ret") => `(tactic| ((with_reducible refine' Ex.ret ?e ?p); (case e => wtm_at "v_ev"); (case' p => (refine' ⟨?_, ?q⟩; (case q => rfl)))))
local macro_rules | `(tactic| wtm_at "v_up") => `(tactic| first
  | (with_reducible refine' Ex.unpack2 ?e ?_ ?a ?b ?s ?w ?x; (case e => wtm_at "v_ev"); (case a | b => wtm_at "v_kd"); (case s | w | x => wtm_at "v_rfl"))
  | (with_reducible refine' Ex.unpack3 ?e ?_ ?a ?b ?c ?s ?w ?x; (case e => wtm_at "v_ev"); (case a | b | c => wtm_at "v_kd"); (case s | w | x => wtm_at "v_rfl"))
  | (with_reducible refine' Ex.swap2 ?e ?a ?b ?s ?w ?_; (case e => wtm_at "v_ev"); (case w => wtm_at "v_rfl"); (case a | b => wtm_at "v_kd"); (case s => wtm_at "v_rfl")))
local macro_rules | `(tactic| wtm_at "v_exp") => `(tactic| (with_reducible refine' Ex.expr ?e ?_ ?i ?s; (case e => wtm_at "v_ev"); (case i | s => wtm_at "v_rfl")))

section
open PySem PySem.Spec PySem.Calls PySem.W PyProof.Rows
/-- an int of at most k decimal digits -/
noncomputable def Dig (k : Nat) (n : Int) : Prop := n.natAbs < 10 ^ k
theorem Dig.log {k : Nat} {n : Int} (h : Dig k n) (h0 : n.natAbs ≠ 0) : n.natAbs.log2 < 4 * k := by
  rw [Nat.log2_lt h0]
  refine Nat.lt_of_lt_of_le h ?_
  rw [Nat.pow_mul]
  exact Nat.pow_le_pow_left (by decide) k
theorem Dig.bits {k : Nat} {n : Int} (h : Dig k n) : Builtin.Int.intBits n ≤ 4 * k := by
  unfold Builtin.Int.intBits
  by_cases h0 : n = 0
  · simp [h0]
  · have hb : (n == 0) = false := by simpa using h0
    rw [hb]
    have := h.log (by lia)
    simp only [Bool.false_eq_true, if_false]
    lia
theorem Dig.mono {j k : Nat} {a : Int} (ha : Dig j a) (h : j ≤ k) : Dig k a := Nat.lt_of_lt_of_le ha (Nat.pow_le_pow_right (by decide) h)
theorem Dig.mulOk {a b : Int} (ha : Dig 2000 a) (hb : Dig 2000 b) : IntMulOk a b :=
  .of_bits (Nat.le_trans ha.bits (by decide)) (Nat.le_trans hb.bits (by decide))
theorem Dig.py {a b : Int} (hb : Dig 2000 b) : Builtin.divisionGoesByPylong a b = false := by
  refine PyProof.noPylong_of_log2 ?_
  by_cases h0 : b.natAbs = 0
  · rw [h0]; decide +kernel
  · exact Nat.lt_of_lt_of_le (hb.log h0) (by decide)
theorem Dig.str {a : Int} (ha : Dig 480 a) : a.natAbs.log2 < 1920 := by
  by_cases h0 : a.natAbs = 0
  · rw [h0]; decide +kernel
  · exact ha.log h0
theorem Dig.mul {j k : Nat} {a b : Int} (ha : Dig j a) (hb : Dig k b) : Dig (j + k) (a * b) := by
  unfold Dig at *
  rw [Int.natAbs_mul, Nat.pow_add]
  exact Nat.mul_lt_mul'' ha hb
theorem Dig.pow {k : Nat} : Dig (k + 1) ((10 : Int) ^ k) := by
  unfold Dig
  rw [Int.natAbs_pow]
  exact Nat.pow_lt_pow_right (by decide) (Nat.lt_succ_self k)
theorem Dig.of_le {k : Nat} {a b : Int} (ha : Dig k a) (h0 : 0 ≤ b) (h : b ≤ a) : Dig k b :=
  Nat.lt_of_le_of_lt (Int.ofNat_le.mp (by rw [Int.natAbs_of_nonneg h0, Int.natAbs_of_nonneg (Int.le_trans h0 h)]; exact h)) ha
theorem tlt {a : Int} {n : Nat} (h0 : 0 ≤ a) (h : a < n) : a.toNat < n := (Int.toNat_lt h0).mpr h
theorem tle {a : Int} {n : Nat} (h : a ≤ n) : a.toNat ≤ n := Int.toNat_le.mpr h
theorem pw2k {a : Int} (h : a ≤ 200) : Dig 2000 ((10 : Int) ^ a.toNat) := Dig.pow.mono (Nat.le_trans (Nat.succ_le_succ (tle (n := 200) h)) (by decide))
theorem spot0 {e figs : Int} (hb : -140 ≤ e ∧ e ≤ 140) (hf : 1 ≤ figs ∧ figs ≤ 20) : figs - 1 - e ≤ 200 ∧ -(figs - 1 - e) ≤ 200 := by lia
theorem spot1 {e figs : Int} (hb : -140 ≤ e ∧ e ≤ 140) (hf : 1 ≤ figs ∧ figs ≤ 20) : figs - 1 - (e + 1) ≤ 200 ∧ -(figs - 1 - (e + 1)) ≤ 200 := by lia
theorem Dig.pw {x : Int} (h : Dig 150 x) {i : Nat} (hi : i ≤ 150) : Dig 2000 (x * 10 ^ i) := (h.mul Dig.pow).mono (Nat.le_trans (Nat.add_le_add_left (Nat.succ_le_succ hi) 150) (by decide))
theorem Dig.abs {k : Nat} {a : Int} (ha : Dig k a) : Dig k (if a < 0 then -a else a) := by
  unfold Dig at *
  split
  · rw [Int.natAbs_neg]; exact ha
  · exact ha
noncomputable def near (n d : Int) : Int :=
  if (decide (d < 2 * (n - Int.fdiv n d * d)) || (decide (2 * (n - Int.fdiv n d * d) = d) && decide (Int.fmod (Int.fdiv n d) 2 = 1))) = true then Int.fdiv n d + 1 else Int.fdiv n d
theorem fdiv_eq {n d : Int} (hd : 0 < d) : n.fdiv d = n / d := Int.fdiv_eq_ediv_of_nonneg _ (by lia)
theorem near_nonneg {n d : Int} (hn : 0 ≤ n) (hd : 0 < d) : 0 ≤ near n d := by
  have h := Int.ediv_nonneg hn (Int.le_of_lt hd)
  rw [← fdiv_eq hd] at h
  unfold near
  split <;> omega
theorem near_le {n d b : Int} (hn : 0 ≤ n) (hd : 0 < d) (h : n < d * b) : near n d ≤ b := by
  have h' : n / d < b := Int.ediv_lt_of_lt_mul hd (by rwa [Int.mul_comm])
  rw [← fdiv_eq hd] at h'
  unfold near
  split <;> omega
theorem near_le1 {n d : Int} (hn : 0 ≤ n) (hd : 0 < d) : near n d ≤ n + 1 := by
  refine near_le hn hd ?_
  have : 1 * (n + 1) ≤ d * (n + 1) := Int.mul_le_mul_of_nonneg_right (by lia) (by lia)
  omega
theorem Dig.near {k : Nat} {n d : Int} (h : Dig k n) (hn : 0 ≤ n) (hd : 0 < d) : Dig (k + 1) (near n d) := by
  have h1 := near_le1 hn hd
  have h2 := near_nonneg hn hd
  unfold Dig at *
  rw [Nat.pow_succ]
  have : 1 ≤ 10 ^ k := Nat.pow_pos (by decide)
  lia

/-- the spot of the leading figure of n/d -/
noncomputable def IsExp (n d e : Int) : Prop := d * 10 ^ e.toNat ≤ n * 10 ^ (-e).toNat ∧ n * 10 ^ (-e).toNat < 10 * (d * 10 ^ e.toNat)

/-- n/d with so many places, to the nearest whole -/
noncomputable def scl (n d p : Int) : Int := if 0 ≤ p then near (n * 10 ^ p.toNat) d else near n (d * 10 ^ (-p).toNat)
theorem pow10_pos (k : Nat) : (0 : Int) < 10 ^ k := Int.pow_pos (by decide)
theorem pow10_mono {a b : Nat} (h : a ≤ b) : (10 : Int) ^ a ≤ 10 ^ b := by
  obtain ⟨c, rfl⟩ := Nat.exists_eq_add_of_le h
  rw [Int.pow_add]
  have h1 : (1 : Int) ≤ 10 ^ c := pow10_pos c
  have := Int.mul_le_mul_of_nonneg_left h1 (Int.le_of_lt (pow10_pos a))
  lia
theorem scl_nonneg {n d p : Int} (hn : 0 ≤ n) (hd : 0 < d) : 0 ≤ scl n d p := by
  unfold scl
  split
  · exact near_nonneg (Int.mul_nonneg hn (Int.le_of_lt (pow10_pos _))) hd
  · exact near_nonneg hn (Int.mul_pos hd (pow10_pos _))
theorem Dig.scl {j k : Nat} {n d p : Int} (h : Dig j n) (hn : 0 ≤ n) (hd : 0 < d) (hp : p.toNat ≤ k) : Dig (j + (k + 1) + 1) (scl n d p) := by
  unfold Mine.scl
  split
  · exact ((h.mul Dig.pow).near (Int.mul_nonneg hn (Int.le_of_lt (pow10_pos _))) hd).mono (by lia)
  · exact (h.near hn (Int.mul_pos hd (pow10_pos _))).mono (by lia)
/-- the figures and the spot, of figs figures -/
noncomputable def shp (n d e figs : Int) : Int × Int :=
  if 10 ^ figs.toNat ≤ scl n d (figs - 1 - e) then (scl n d (figs - 1 - (e + 1)), e + 1) else (scl n d (figs - 1 - e), e)
end

section
open PySem PySem.Spec PySem.Calls PySem.W PyProof.Rows
variable {w : World} {k : Nat} {D : Dm} {σ : List Val}
structure NearOk (n d : Int) : Prop where
  n0 : 0 ≤ n
  d0 : 0 < d
  dn : Dig 600 n
  dd : Dig 600 d
theorem NearOk.low {n d : Int} (h : NearOk n d) : n.fdiv d * d ≤ n ∧ 0 ≤ n.fdiv d := by
  rw [fdiv_eq h.d0]
  exact ⟨Int.ediv_mul_le _ (by have := h.d0; omega), Int.ediv_nonneg h.n0 (Int.le_of_lt h.d0)⟩
theorem NearOk.dlow {n d : Int} (h : NearOk n d) : Dig 2000 (n.fdiv d) := by
  have := h.low.2
  refine (h.dn.mono (by decide : 600 ≤ 2000)).of_le this ?_
  rw [fdiv_eq h.d0]
  exact Int.ediv_le_self _ h.n0
theorem NearOk.rest {n d : Int} (h : NearOk n d) : Dig 2000 (n - n.fdiv d * d) := by
  have := h.low
  have : 0 ≤ n.fdiv d * d := Int.mul_nonneg this.2 (Int.le_of_lt h.d0)
  exact (h.dn.mono (by decide : 600 ≤ 2000)).of_le (by omega) (by omega)
theorem dig2 : Dig 2000 2 := Dig.mono (j := 1) (by unfold Dig; decide) (by decide)
theorem fn_near {n d : Int} (h : NearOk n d) : Fn w 1 21 D [.int n, .int d] σ (.int (near n d)) σ := by
  have hd0 : d ≠ 0 := by have := h.d0; omega
  have hpy : Builtin.divisionGoesByPylong n d = false := (h.dd.mono (by decide)).py
  have hm1 : IntMulOk 2 (n - n.fdiv d * d) := dig2.mulOk h.rest
  have hm2 : IntMulOk (n.fdiv d) d := h.dlow.mulOk (h.dd.mono (by decide))
  wtm_at "v_fill"
  refine Fn.intro (ps := ["n", "d"]) (by k_is) (by k_is) (us2 fun _ _ => by wtm_at "v_rfl") rfl (by decide) (fun L x hx => .inl (by revert x; decide)) rfl rfl rfl (fun L => ?_)
  wtm_at "v_asg"
  wtm_at "v_asg"
  with_reducible refine' Ex.ite ?gxe (fun c => ?gxa) (fun c => ?gxb)
  case gxe => wtm_at "v_tst"
  case gxa => wtm_at "v_ret"; unfold near; rw [if_pos c]
  case gxb => (with_reducible refine' Ex.fin ?_); wtm_at "v_ret"; unfold near; rw [if_neg (by rw [c]; decide)]
theorem fn_lnear {n d : Int} (h : NearOk n d) : Fn w 1 139 D [.int n, .int d] σ (.int (near n d)) σ := by
  have hd0 : d ≠ 0 := by have := h.d0; omega
  have hpy : Builtin.divisionGoesByPylong n d = false := (h.dd.mono (by decide)).py
  have hm1 : IntMulOk 2 (n - n.fdiv d * d) := dig2.mulOk h.rest
  have hm2 : IntMulOk (n.fdiv d) d := h.dlow.mulOk (h.dd.mono (by decide))
  wtm_at "v_fill"
  refine Fn.intro (ps := ["n", "d"]) (by k_is) (by k_is) (us2 fun _ _ => by wtm_at "v_rfl") rfl (by decide) (fun L x hx => .inl (by revert x; decide)) rfl rfl rfl (fun L => ?_)
  wtm_at "v_asg"
  wtm_at "v_asg"
  wtm_at "v_ret"
  unfold near
  split <;> rfl
end

section
open PySem PySem.Spec PySem.Calls PySem.W PyProof.Rows
variable {w : World} {k : Nat} {D : Dm} {σ : List Val}
noncomputable abbrev bab (n : Int) : Int := if n < 0 then -n else n
theorem bab_nonneg (n : Int) : 0 ≤ bab n := by unfold bab; split <;> lia
theorem dig10 : Dig 2000 10 := Dig.mono (j := 2) (by unfold Dig; decide) (by decide)
/-- the pair of a fraction -/
structure PairOk (x d : Int) : Prop where
  d0 : 0 < d
  dx : Dig 140 x
  dd : Dig 140 d
noncomputable abbrev pr (x d : Int) : Val := .tup [.int x, .int d]

theorem exp_up {n d e : Int} (h : IsExp n d e) (hd : 0 < d) (hn : 0 < n) (i : Nat) (hi : i ≤ e.toNat) : decide (10 * (d * 10 ^ i) ≤ n) = decide (i < e.toNat) := by
  obtain ⟨h1, h2⟩ := h
  by_cases c : i < e.toNat
  · rw [decide_eq_true c]
    refine decide_eq_true ?_
    have e0 : (-e).toNat = 0 := by lia
    rw [e0] at h1
    have : (10 : Int) ^ (i + 1) ≤ 10 ^ e.toNat := pow10_mono (by lia)
    have h3 := Int.mul_le_mul_of_nonneg_left this (Int.le_of_lt hd)
    rw [Int.pow_succ] at h3
    simp only [Int.pow_zero, Int.mul_one] at h1
    rw [show d * (10 ^ i * 10) = 10 * (d * 10 ^ i) by rw [← Int.mul_assoc, Int.mul_comm]] at h3
    lia
  · rw [decide_eq_false c]
    refine decide_eq_false ?_
    have : i = e.toNat := by lia
    subst this
    have : (1 : Int) ≤ 10 ^ (-e).toNat := pow10_pos _
    have h3 := Int.mul_le_mul_of_nonneg_left this (Int.le_of_lt hn)
    lia
theorem exp_down {n d e : Int} (h : IsExp n d e) (hd : 0 < d) (hn : 0 < n) (j : Nat) (hj : j ≤ (-e).toNat) : decide (n * 10 ^ j < d * 10 ^ e.toNat) = decide (j < (-e).toNat) := by
  obtain ⟨h1, h2⟩ := h
  by_cases c : j < (-e).toNat
  · rw [decide_eq_true c]
    refine decide_eq_true ?_
    have e0 : e.toNat = 0 := by lia
    rw [e0] at h2 ⊢
    have : (10 : Int) ^ (j + 1) ≤ 10 ^ (-e).toNat := pow10_mono (by lia)
    have h3 := Int.mul_le_mul_of_nonneg_left this (Int.le_of_lt hn)
    rw [Int.pow_succ] at h3
    rw [show n * (10 ^ j * 10) = 10 * (n * 10 ^ j) by rw [← Int.mul_assoc, Int.mul_comm]] at h3
    lia
  · rw [decide_eq_false c]
    refine decide_eq_false ?_
    have : j = (-e).toNat := by lia
    subst this
    omega
theorem fn_exponent {x d e : Int} (h : PairOk x d) (hx : x ≠ 0) (he : IsExp (bab x) d e) (hb : e.toNat ≤ 150 ∧ (-e).toNat ≤ 150) : Fn w 1 28 D [pr x d] σ (.int e) σ := by
  have hn0 : 0 < bab x := by unfold bab; split <;> lia
  wtm_at "v_fill"
  refine Fn.intro (ps := ["x"]) (by k_is) (by k_is) (us1 fun _ => by wtm_at "v_rfl") rfl (by decide) (fun L x hx => .inl (by revert x; decide)) rfl rfl rfl (fun L => ?_)
  wtm_at "v_asg"
  wtm_at "v_asg"
  wtm_at "v_asg"
  with_reducible refine' Ex.while (fun m ρ' σ' => ∃ i : Nat, i ≤ e.toNat ∧ m = e.toNat - i ∧ σ' = σ ∧ At ρ' "n" (.int (bab x)) ∧ At ρ' "d" (.int (d * 10 ^ i)) ∧ At ρ' "e" (.int (i : Int))) e.toNat ?gxh0 ?gxturn
  case gxh0 => exact ⟨0, Nat.zero_le _, rfl, rfl, by wtm_at "v_rfl", (by rw [Int.pow_zero, Int.mul_one]; wtm_at "v_rfl"), by wtm_at "v_rfl"⟩
  case gxturn =>
    rintro m ρ' σ' ⟨i, hi, rfl, rfl, r1, r2, r3⟩
    have hdi : Dig 2000 (d * 10 ^ i) := (h.dd.mono (by decide)).pw (Nat.le_trans hi hb.1)
    have hm1 : IntMulOk 10 (d * 10 ^ i) := dig10.mulOk hdi
    have hm2 : IntMulOk (d * 10 ^ i) 10 := hdi.mulOk dig10
    refine ⟨decide (i < e.toNat), ?_, ?_, ?_⟩
    · rw [← exp_up he h.d0 hn0 i hi]
      wtm_at "v_tst"
    · intro c
      have c := of_decide_eq_true c
      wtm_at "v_asg"
      wtm_at "v_aug"
      with_reducible refine' Ex.loopEnd ?_
      refine ⟨e.toNat - (i + 1), Nat.sub_lt_sub_left c (Nat.lt_succ_self i), i + 1, c, rfl, rfl, ?_, ?_, ?_⟩
      · exact r1
      · rw [Int.pow_succ, ← Int.mul_assoc]; wtm_at "v_rfl"
      · wtm_at "v_rfl"
    · intro c
      have c := of_decide_eq_false c
      obtain rfl : i = e.toNat := by lia
      with_reducible refine' Ex.while (fun m ρ' σ'' => ∃ j : Nat, j ≤ (-e).toNat ∧ m = (-e).toNat - j ∧ σ'' = σ' ∧ At ρ' "n" (.int (bab x * 10 ^ j)) ∧ At ρ' "d" (.int (d * 10 ^ e.toNat)) ∧ At ρ' "e" (.int (e.toNat - j : Int))) (-e).toNat ?gxh0 ?gxturn
      case gxh0 => exact ⟨0, Nat.zero_le _, rfl, rfl, (by rw [Int.pow_zero, Int.mul_one]; exact r1), r2, (by simpa using r3)⟩
      case gxturn =>
        rintro m ρ' σ' ⟨j, hj, rfl, rfl, r1, r2, r3⟩
        have hdj : Dig 2000 (bab x * 10 ^ j) := (h.dx.abs.mono (by decide)).pw (Nat.le_trans hj hb.2)
        have hm2 : IntMulOk (bab x * 10 ^ j) 10 := hdj.mulOk dig10
        refine ⟨decide (j < (-e).toNat), ?_, ?_, ?_⟩
        · rw [← exp_down he h.d0 hn0 j hj]
          wtm_at "v_tst"
        · intro c
          have c := of_decide_eq_true c
          wtm_at "v_asg"
          wtm_at "v_aug"
          with_reducible refine' Ex.loopEnd ?_
          refine ⟨(-e).toNat - (j + 1), Nat.sub_lt_sub_left c (Nat.lt_succ_self j), j + 1, c, rfl, rfl, ?_, ?_, ?_⟩
          · rw [Int.pow_succ, ← Int.mul_assoc]; wtm_at "v_rfl"
          · exact r2
          · rw [show ((e.toNat : Int) - ((j + 1 : Nat) : Int)) = (e.toNat : Int) - (j : Int) - 1 by lia]; wtm_at "v_rfl"
        · intro c
          have c := of_decide_eq_false c
          wtm_at "v_ret"
          rw [show j = (-e).toNat from Nat.le_antisymm hj (Nat.le_of_not_lt c), Int.toNat_sub_toNat_neg]
end

section
open PySem PySem.Spec PySem.Calls PySem.W PyProof.Rows
variable {w : World} {k : Nat} {D : Dm} {σ : List Val}
theorem powOk {n : Int} (h : n ≤ 10000) : (Builtin.Int.intBits 10 : Int) * n ≤ 2 ^ 27 := by
  have : Builtin.Int.intBits 10 = 4 := by decide +kernel
  rw [this]; lia
theorem near_up {n d p : Int} (hn : 0 ≤ n) (dn : Dig 150 n) (hd : 0 < d) (dd : Dig 150 d) (hp : p ≤ 200) : NearOk (n * 10 ^ p.toNat) d :=
  ⟨Int.mul_nonneg hn (Int.le_of_lt (pow10_pos _)), hd, (dn.mul Dig.pow).mono (by lia), dd.mono (by decide)⟩
theorem near_dn {n d p : Int} (hn : 0 ≤ n) (dn : Dig 150 n) (hd : 0 < d) (dd : Dig 150 d) (hp : p ≤ 200) : NearOk n (d * 10 ^ p.toNat) :=
  ⟨hn, Int.mul_pos hd (pow10_pos _), dn.mono (by decide), (dd.mul Dig.pow).mono (by omega)⟩
theorem scl_pos {n d p : Int} (h : 0 ≤ p) : near (n * 10 ^ p.toNat) d = scl n d p := by unfold scl; rw [if_pos h]
theorem scl_neg {n d p : Int} (h : ¬ 0 ≤ p) : near n (d * 10 ^ (-p).toNat) = scl n d p := by unfold scl; rw [if_neg h]
theorem fn_scaled {x d e figs : Int} (h : PairOk x d) (hp : figs - 1 - e ≤ 200 ∧ -(figs - 1 - e) ≤ 200) : Fn w 2 49 D [pr x d, .int e, .int figs] σ (.int (scl (bab x) d (figs - 1 - e))) σ := by
  have hdb : Dig 150 (bab x) := (h.dx.mono (by decide : 140 ≤ 150)).abs
  have hdd : Dig 150 d := h.dd.mono (by decide)
  have hpow : ∀ n : Int, n ≤ 200 → Dig 2000 (10 ^ n.toNat) := fun n hn => Dig.pow.mono (by lia)
  wtm_at "v_fill"
  refine Fn.intro (ps := ["x", "e", "digits"]) (by k_is) (by k_is) (us3 fun _ _ _ => by wtm_at "v_rfl") rfl (by decide) (fun L x hx => .inl (by revert x; decide)) rfl rfl rfl (fun L => ?_)
  wtm_at "v_asg"
  with_reducible refine' Ex.ite ?gxe (fun c => ?gxa) (fun c => ?gxb)
  case gxe => wtm_at "v_tst"
  case gxa =>
    have c := of_decide_eq_true c
    have hf : Fn w 1 21 D _ σ _ σ := fn_near (near_up (bab_nonneg x) hdb h.d0 hdd hp.1)
    have hm : IntMulOk _ _ := (hdb.mono (by decide)).mulOk (hpow _ hp.1)
    have hw := powOk (n := figs - 1 - e) (by lia)
    wtm_at "v_ret"
    rw [scl_pos c]
  case gxb =>
    have c := of_decide_eq_false c
    have e0 : (0 - (figs - 1 - e)) = -(figs - 1 - e) := by lia
    have hf : Fn w 1 21 D _ σ _ σ := fn_near (near_dn (p := 0 - (figs - 1 - e)) (bab_nonneg x) hdb h.d0 hdd (by lia))
    with_reducible refine' Ex.fin ?_
    have hm : IntMulOk _ _ := (hdd.mono (by decide)).mulOk (hpow (0 - (figs - 1 - e)) (by omega))
    have hw := powOk (n := 0 - (figs - 1 - e)) (by lia)
    wtm_at "v_ret"
    rw [e0, scl_neg c]
theorem fn_lscaled {n d p : Int} (hn : 0 ≤ n) (dn : Dig 150 n) (hd : 0 < d) (dd : Dig 150 d) (hp : p ≤ 200 ∧ -p ≤ 200) : Fn w 2 146 D [.int n, .int d, .int p] σ (.int (scl n d p)) σ := by
  have hpow : ∀ n : Int, n ≤ 200 → Dig 2000 (10 ^ n.toNat) := fun n hn => Dig.pow.mono (by lia)
  wtm_at "v_fill"
  refine Fn.intro (ps := ["n", "d", "places"]) (by k_is) (by k_is) (us3 fun _ _ _ => by wtm_at "v_rfl") rfl (by decide) (fun L x hx => .inl (by revert x; decide)) rfl rfl rfl (fun L => ?_)
  with_reducible refine' Ex.ite ?gxe (fun c => ?gxa) (fun c => ?gxb)
  case gxe => wtm_at "v_tst"
  case gxa =>
    have c := of_decide_eq_true c
    have hf : Fn w 1 139 D _ σ _ σ := fn_lnear (near_up hn dn hd dd hp.1)
    have hm : IntMulOk _ _ := (dn.mono (by decide)).mulOk (hpow _ hp.1)
    have hw := powOk (n := p) (by lia)
    wtm_at "v_ret"
    rw [scl_pos c]
  case gxb =>
    have c := of_decide_eq_false c
    have hf : Fn w 1 139 D _ σ _ σ := fn_lnear (near_dn (p := -p) hn dn hd dd (by lia))
    with_reducible refine' Ex.fin ?_
    have hm : IntMulOk _ _ := (dd.mono (by decide)).mulOk (hpow (-p) (by omega))
    have hw := powOk (n := -p) (by lia)
    wtm_at "v_ret"
    rw [scl_neg c]
end

section
open PySem PySem.Spec PySem.Calls PySem.W PyProof.Rows
/-- a text by its signs -/
noncomputable def tx (l : List Nat) : Str := ⟨l.toArray⟩
theorem tx_len (l : List Nat) : (tx l).length = l.length := by simp [tx, Str.length]
theorem tx_add (l m : List Nat) : tx l ++ tx m = tx (l ++ m) := by
  show Str.mk ((tx l).cps ++ (tx m).cps) = _
  simp [tx]
theorem tx_list (l : List Nat) : (tx l).cps.toList = l := by simp [tx]
theorem tx_of (x : Str) : ∃ l, x = tx l := ⟨x.cps.toList, by simp [tx]⟩
theorem tx_inj {l m : List Nat} (h : tx l = tx m) : l = m := by
  have := congrArg (fun x => x.cps.toList) h
  simpa [tx] using this
theorem tx_item {l : List Nat} {i : Int} (h0 : 0 ≤ i) (h1 : i < l.length) : Txt.item (tx l) i = tx [l.getD i.toNat 0] := by
  have h := item_closes (x := tx l) (i := i) ⟨h0, by rw [tx_len]; exact h1⟩
  rw [eq_of_beq h]
  simp [tx]
theorem tx_to {l : List Nat} {j : Int} (h0 : 0 ≤ j) (h1 : j ≤ l.length) : Txt.slice (tx l) none (some j) = tx (l.take j.toNat) := by
  have h := slice_closes_toL (x := tx l) (j := j) h0 (by rw [tx_len]; exact h1)
  rw [eq_of_beq h]
  simp [tx]
theorem len_sub {n : Nat} {p : Int} (h : 0 ≤ p) : ((n : Int) - p).toNat = n - p.toNat := by
  obtain ⟨m, rfl⟩ := Int.eq_ofNat_of_zero_le h
  exact Int.toNat_sub n m
theorem neg_len {n : Nat} {p : Int} (h : 0 ≤ p) : (-p + (n : Int)).toNat = n - p.toNat := by
  rw [Int.add_comm]; exact len_sub h
theorem tx_from {l : List Nat} {j : Int} (h0 : 0 ≤ j) (h1 : j ≤ l.length) : Txt.slice (tx l) (some j) none = tx (l.drop j.toNat) := by
  have h := slice_closes_fromL (x := tx l) (i := j) (b := l.length) h0 (by rw [tx_len]; exact h1) (by rw [tx_len])
  rw [eq_of_beq h, tx_list]
  have : ((l.drop j.toNat).take ((l.length : Int) - j).toNat) = l.drop j.toNat := List.take_of_length_le (by rw [List.length_drop, len_sub h0]; exact Nat.le_refl _)
  rw [this]; rfl
theorem tx_toN {l : List Nat} {p : Int} (h0 : 0 < p) (h1 : p ≤ l.length) : Txt.slice (tx l) none (some (-p)) = tx (l.take (l.length - p.toNat)) := by
  have h := slice_closes_to_neg (x := tx l) (j := -p) (k := -p + l.length) (by omega) (by rw [tx_len]; lia) (by rw [tx_len])
  rw [eq_of_beq h, tx_list]
  have : (-p + (l.length : Int) - 0).toNat = l.length - p.toNat := by rw [Int.sub_zero]; exact neg_len (Int.le_of_lt h0)
  rw [this]; simp [tx]
theorem tx_fromN {l : List Nat} {p : Int} (h0 : 0 < p) (h1 : p ≤ l.length) : Txt.slice (tx l) (some (-p)) none = tx (l.drop (l.length - p.toNat)) := by
  have h := slice_closes_from_neg (x := tx l) (i := -p) (a := -p + l.length) (b := l.length) (by omega) (by rw [tx_len]; omega) (by rw [tx_len]) (by rw [tx_len])
  rw [eq_of_beq h, tx_list]
  have e : (-p + (l.length : Int)).toNat = l.length - p.toNat := neg_len (Int.le_of_lt h0)
  rw [e]
  have : ((l.drop (l.length - p.toNat)).take ((l.length : Int) - (-p + l.length)).toNat) = l.drop (l.length - p.toNat) := List.take_of_length_le (by
    rw [List.length_drop, show (l.length : Int) - (-p + l.length) = p by lia]
    generalize p.toNat = q
    exact Nat.sub_le_iff_le_add.mpr (by rw [Nat.add_comm]; exact Nat.sub_le_iff_le_add.mp (Nat.le_refl _)))
  rw [this]; rfl
theorem zero_tx : (Str.ofString "0") = tx [48] := by decide +kernel
theorem foldl_app (m : Array Nat) : ∀ (n : Nat) (a : Array Nat), (List.replicate n m).foldl (fun x y => x ++ y) a = a ++ (List.replicate n m.toList).flatten.toArray
  | 0, a => by simp
  | n + 1, a => by
    rw [List.replicate_succ, List.foldl_cons, foldl_app m n]
    apply Array.ext'
    simp [List.replicate_succ]
theorem tx_mul {n : Int} : Txt.mul (Str.ofString "0") n = tx (List.replicate n.toNat 48) := by
  rw [zero_tx]
  unfold Txt.mul
  by_cases h : n < 1
  · rw [if_pos h]
    have : n.toNat = 0 := by lia
    rw [this]; rfl
  · rw [if_neg h]
    by_cases h1 : n = 1
    · subst h1; rfl
    · have hb : (n == 1) = false := by simpa using h1
      have hl : ((tx [48]).length == 0) = false := rfl
      rw [hb, hl]
      simp only [Bool.or_self, Bool.false_eq_true, if_false]
      rw [foldl_app]
      simp [tx]
theorem tx_rjust {l : List Nat} {i : Int} : Txt.rjustF (tx l) i 48 = tx (List.replicate (i.toNat - l.length) 48 ++ l) := by
  unfold Txt.rjustF
  rw [tx_len]
  split
  · rename_i hh
    have : i.toNat - l.length = 0 := Nat.sub_eq_zero_of_le (Int.toNat_le.mpr hh)
    rw [this]; rfl
  · unfold Builtin.Str.padded
    simp [tx]
theorem fill48 : (Str.ofString "0").cps.getD 0 0 = 48 := by decide +kernel

/-- the signs up to the last that is no nought -/
noncomputable def cut0 (l : List Nat) : List Nat := (l.reverse.dropWhile (· == 48)).reverse
theorem cut0_len (l : List Nat) : (cut0 l).length = l.length - (l.reverse.takeWhile (· == 48)).length := by
  unfold cut0
  rw [List.length_reverse]
  have h := congrArg List.length (List.takeWhile_append_dropWhile (p := (· == 48)) (l := l.reverse))
  rw [List.length_append, List.length_reverse] at h
  lia
theorem tx_rstrip {l : List Nat} : (Txt.rstripChars (tx l) (Str.ofString "0")).length = (cut0 l).length := by
  unfold Txt.rstripChars
  rw [PyProof.Rows.stripBy_eq]
  have hc : (Str.ofString "0").cps.contains = fun c => c == 48 := by
    funext c
    rw [zero_tx, Bool.eq_iff_iff]
    simp [tx]
  rw [hc, cut0_len]
  unfold stripLo stripHi
  simp only [Bool.false_eq_true, if_false, if_true, List.drop_zero]
  rw [tx_list, tx_len]
  unfold Builtin.Str.strSub Str.length
  simp [tx]
/-- decimal signs -/
noncomputable def dg (m : Nat) : List Nat := (Nat.toDigits 10 m).map Char.toNat
theorem dg_text {a : Int} (h : 0 ≤ a) : Str.ofString (toString a) = tx (dg a.toNat) := by
  obtain ⟨m, rfl⟩ := Int.eq_ofNat_of_zero_le h
  exact text_ofNat m
theorem dg_pos (m : Nat) : 0 < (dg m).length := by rw [dg, List.length_map]; exact Nat.length_toDigits_pos
theorem dg_le {m k : Nat} (hk : 0 < k) : (dg m).length ≤ k ↔ m < 10 ^ k := by rw [dg, List.length_map]; exact Nat.length_toDigits_le_iff (by decide) hk
theorem dg_lt {m : Nat} : m < 10 ^ (dg m).length := (dg_le (dg_pos m)).mp (Nat.le_refl _)
theorem dg_ge {m : Nat} (hm : 0 < m) : 10 ^ ((dg m).length - 1) ≤ m := by
  rcases Nat.lt_or_ge m (10 ^ ((dg m).length - 1)) with h | h
  · have hp := dg_pos m
    by_cases c : (dg m).length - 1 = 0
    · rw [c] at h; simp at h; lia
    · have := (dg_le (by lia)).mpr h
      omega
  · exact h
end

section
open PySem PySem.Spec PySem.Calls PySem.W PyProof.Rows
variable {w : World} {k : Nat} {D : Dm} {σ : List Val}
noncomputable def len10 (n : Int) : Nat := (dg n.toNat).length
noncomputable def expo (n d : Int) : Int :=
  if n * 10 ^ (-((len10 n : Int) - len10 d)).toNat < d * 10 ^ ((len10 n : Int) - len10 d).toNat then (len10 n : Int) - len10 d - 1 else (len10 n : Int) - len10 d
theorem len10_lt {n : Int} (h : 0 ≤ n) : n < 10 ^ len10 n := by
  have := dg_lt (m := n.toNat)
  have h2 := Int.ofNat_lt.mpr this
  rw [Int.natCast_pow, show ((10 : Nat) : Int) = 10 from rfl] at h2
  unfold len10
  omega
theorem len10_ge {n : Int} (h : 0 < n) : 10 ^ (len10 n - 1) ≤ n := by
  have := dg_ge (m := n.toNat) (by lia)
  have h2 := Int.ofNat_le.mpr this
  rw [Int.natCast_pow, show ((10 : Nat) : Int) = 10 from rfl] at h2
  unfold len10
  lia
theorem len10_pos {n : Int} : 0 < len10 n := dg_pos _
theorem len10_dig {n : Int} {k : Nat} (h0 : 0 ≤ n) (h : Dig k n) (hk : 0 < k) : len10 n ≤ k := by
  unfold len10
  rw [dg_le hk]
  unfold Dig at h
  omega
theorem between {n : Int} (hn : 0 < n) (b : Nat) : 10 ^ (len10 n + b - 1) ≤ n * 10 ^ b ∧ n * 10 ^ b < 10 ^ (len10 n + b) := by
  have h1 := len10_ge hn
  have h2 := len10_lt (Int.le_of_lt hn)
  have hp := pow10_pos b
  have hl := len10_pos (n := n)
  refine ⟨?_, ?_⟩
  · rw [Nat.sub_add_comm hl, Int.pow_add]
    exact Int.mul_le_mul_of_nonneg_right h1 (Int.le_of_lt hp)
  · rw [Int.pow_add]
    exact Int.mul_lt_mul_of_pos_right h2 hp
theorem ar1 {X Y Z M T : Int} (a : M ≤ X) (b : Y < T) (t : T = 10 * M) (c : X < Y) (h : Y = 10 * Z) : Z ≤ X ∧ X < 10 * Z := by lia
theorem ar2 {X Y Z M T : Int} (a : M ≤ X) (b : Y < T) (t : T = 10 * M) (c : X < Y) (h : Z = 10 * X) : Y ≤ Z ∧ Z < 10 * Y := by lia
theorem ar3 {X Y M T : Int} (a : X < T) (b : M ≤ Y) (t : T = 10 * M) (c : ¬ X < Y) : Y ≤ X ∧ X < 10 * Y := by lia
theorem tenth {x k m : Nat} (h : x = k + 1) : (10 : Int) ^ x = 10 * 10 ^ k := by rw [h, Int.pow_succ, Int.mul_comm]
theorem ten_mul {a b c : Int} (h : b = 10 * c) : a * b = 10 * (a * c) := by rw [h, ← Int.mul_assoc, Int.mul_comm a 10, Int.mul_assoc]
theorem sp_eq {a b A B : Nat} {s : Int} (h : (a : Int) - b = s) (e : (A : Int) - B = s) : b + A = a + B := by lia
theorem isExp_expo {n d : Int} (hn : 0 < n) (hd : 0 < d) : IsExp n d (expo n d) := by
  unfold expo
  generalize hs : (len10 n : Int) - len10 d = s
  obtain ⟨a1, a2⟩ := between hn (-s).toNat
  obtain ⟨b1, b2⟩ := between hd s.toNat
  have ln := len10_pos (n := n)
  have e : len10 d + s.toNat = len10 n + (-s).toNat := sp_eq hs (Int.toNat_sub_toNat_neg s)
  rw [e] at b1 b2
  have hl : len10 n + (-s).toNat = (len10 n + (-s).toNat - 1) + 1 := (Nat.sub_add_cancel (Nat.le_trans ln (Nat.le_add_right _ _))).symm
  have ep := tenth (m := 0) hl
  by_cases c : n * 10 ^ (-s).toNat < d * 10 ^ s.toNat
  · rw [if_pos c]
    unfold IsExp
    rcases Int.lt_or_le 0 s with h | h
    · have z1 : (-(s - 1)).toNat = 0 := Int.toNat_of_nonpos (Int.neg_nonpos_of_nonneg (Int.sub_nonneg_of_le h))
      have z2 : (-s).toNat = 0 := Int.toNat_of_nonpos (Int.neg_nonpos_of_nonneg (Int.le_of_lt h))
      have z3 : s.toNat = (s - 1).toNat + 1 := by
        rw [show (s - 1).toNat = s.toNat - 1 from Int.toNat_sub' s 1]
        exact (Nat.sub_add_cancel (Int.lt_toNat.mpr h)).symm
      rw [z1, ← z2]
      exact ar1 a1 b2 ep c (ten_mul (tenth (m := 0) z3))
    · have z1 : (s - 1).toNat = 0 := Int.toNat_of_nonpos (Int.le_trans (Int.sub_le_self s (by decide)) h)
      have z2 : s.toNat = 0 := Int.toNat_of_nonpos h
      have z3 : (-(s - 1)).toNat = (-s).toNat + 1 := by
        rw [Int.neg_sub, Int.sub_eq_add_neg, Int.add_comm]
        exact Int.toNat_add_nat (Int.neg_nonneg_of_nonpos h) 1
      rw [z1, ← z2]
      exact ar2 a1 b2 ep c (ten_mul (tenth (m := 0) z3))
  · rw [if_neg c]
    unfold IsExp
    exact ar3 a2 b1 ep c
theorem expo_bound {n d : Int} (hn : 0 < n) (hd : 0 < d) (dn : Dig 140 n) (dd : Dig 140 d) : -140 ≤ expo n d ∧ expo n d ≤ 140 := by
  have h1 := len10_dig (Int.le_of_lt hn) dn (by decide)
  have h2 := len10_dig (Int.le_of_lt hd) dd (by decide)
  have h3 := len10_pos (n := n)
  have h4 := len10_pos (n := d)
  unfold expo
  split <;> lia

noncomputable abbrev dS (a : Int) : Str := Str.ofString (toString a)
noncomputable def figM (x d figs : Int) : Int × Int := shp (bab x) d (expo (bab x) d) figs
noncomputable def figT (x d figs : Int) : Str := if x = 0 then Txt.mul (Str.ofString "0") figs else dS (figM x d figs).1
noncomputable def figE (x d figs : Int) : Int := if x = 0 then 0 else (figM x d figs).2
noncomputable def sgn (x : Int) : Int := if x = 0 then 0 else if 0 < x then 1 else -1
theorem bab_pos {x : Int} (h : x ≠ 0) : 0 < bab x := by unfold bab; split <;> lia
theorem PairOk.bounds {x d : Int} (h : PairOk x d) (hx : x ≠ 0) : -140 ≤ expo (bab x) d ∧ expo (bab x) d ≤ 140 := expo_bound (bab_pos hx) h.d0 h.dx.abs h.dd
theorem scl_dig {x d e figs : Int} (h : PairOk x d) (hp : figs - 1 - e ≤ 200) : Dig 480 (scl (bab x) d (figs - 1 - e)) :=
  (Dig.scl (j := 140) (k := 200) h.dx.abs (bab_nonneg x) h.d0 (tle hp)).mono (by decide)
theorem mulOk0 {n : Int} (h : -1000 ≤ n ∧ n ≤ 1000) : MulOk (Str.ofString "0") n := by
  have hl : (Str.ofString "0").length = 1 := by rw [zero_tx]; rfl
  refine ⟨?_, fun _ _ => ?_, fun _ _ => ?_⟩
  · rw [decide_eq_false (by lia), decide_eq_false (by omega)]; rfl
  · rw [hl]
    have h1 : (1 : Int) ≤ (2 ^ 63 - 1) / n := by
      rw [Int.le_ediv_iff_mul_le (by omega)]
      lia
    exact Int.not_lt.mpr h1
  · rw [hl]
    unfold Builtin.Str.tooLong
    rw [sizeLine_eq]
    exact decide_eq_false (by lia)
theorem fn_significant {x d figs : Int} (h : PairOk x d) (hf : 1 ≤ figs ∧ figs ≤ 20) : Fn w 3 56 D [pr x d, .int figs] σ (.tup [.int (sgn x), .str (figT x d figs), .int (figE x d figs)]) σ := by
  have hm0 := mulOk0 (n := figs) (by lia)
  wtm_at "v_fill"
  refine Fn.intro (ps := ["x", "digits"]) (by k_is) (by k_is) (us2 fun _ _ => by wtm_at "v_rfl") rfl (by decide) (fun L x hx => .inl (by revert x; decide)) rfl rfl rfl (fun L => ?_)
  with_reducible refine' Ex.ite ?gxe (fun c => ?gxa) (fun c => ?gxb)
  case gxe => wtm_at "v_tst"
  case gxa =>
    have c := of_decide_eq_true c
    wtm_at "v_ret"
    unfold sgn figT figE
    rw [if_pos c, if_pos c, if_pos c]
  case gxb =>
    have c := of_decide_eq_false c
    have hb := h.bounds c
    have hx1 : Fn w 1 28 D [pr x d] σ (.int (expo (bab x) d)) σ := fn_exponent h c (isExp_expo (bab_pos c) h.d0) ⟨tle (n := 150) (Int.le_trans hb.2 (by decide)), tle (n := 150) (Int.le_trans (Int.neg_le_neg hb.1) (by decide))⟩
    have hx2 : Fn w 2 49 D [pr x d, .int (expo (bab x) d), .int figs] σ _ σ := fn_scaled h (spot0 hb hf)
    have hx3 : Fn w 2 49 D [pr x d, .int (expo (bab x) d + 1), .int figs] σ _ σ := fn_scaled h (spot1 hb hf)
    have hw := powOk (n := figs) (by lia)
    have hl1 := (scl_dig (e := expo (bab x) d) h (figs := figs) (spot0 hb hf).1).str
    have hl2 := (scl_dig (e := expo (bab x) d + 1) h (figs := figs) (spot1 hb hf).1).str
    with_reducible refine' Ex.fin ?_
    wtm_at "v_asg"
    wtm_at "v_asg"
    with_reducible refine' Ex.ite ?gxe (fun c2 => ?gxa) (fun c2 => ?gxb)
    case gxe => wtm_at "v_tst"
    case gxa =>
      have c2 := of_decide_eq_true c2
      wtm_at "v_aug"
      wtm_at "v_asg"
      with_reducible refine' Ex.fin ?_
      wtm_at "v_ret"
      unfold sgn figT figE figM shp
      rw [if_neg c, if_neg c, if_neg c, if_pos c2]
      by_cases c3 : 0 < x
      · rw [if_pos (decide_eq_true c3), if_pos c3]
      · rw [if_neg (by rw [decide_eq_false c3]; decide), if_neg c3]
    case gxb =>
      have c2 := of_decide_eq_false c2
      with_reducible refine' Ex.fin ?_
      wtm_at "v_ret"
      unfold sgn figT figE figM shp
      rw [if_neg c, if_neg c, if_neg c, if_neg c2]
      by_cases c3 : 0 < x
      · rw [if_pos (decide_eq_true c3), if_pos c3]
      · rw [if_neg (by rw [decide_eq_false c3]; decide), if_neg c3]
end

section
open PySem PySem.Spec PySem.Calls PySem.W PyProof.Rows
variable {w : World} {k : Nat} {D : Dm} {σ : List Val}
noncomputable abbrev mx (a b : Int) : Int := if b > a then b else a
theorem mx_nat (s : Int) : (mx 0 s).toNat = s.toNat := by unfold mx; split <;> lia
theorem mx_le (a b c : Int) (h1 : a ≤ c) (h2 : b ≤ c) : mx a b ≤ c := by unfold mx; split <;> omega
theorem mx_ge (a b : Int) : a ≤ mx a b := by unfold mx; split <;> lia
theorem mx_ge' (a b : Int) : b ≤ mx a b := by unfold mx; split <;> lia
theorem len_dS {n : Int} (h : 0 ≤ n) : (dS n).length = len10 n := by unfold dS len10; rw [dg_text h, tx_len]
theorem len_gt {m figs : Int} (h : 0 ≤ m) (hf : 1 ≤ figs) : decide (figs < ((dS m).length : Int)) = decide (10 ^ figs.toNat ≤ m) := by
  rw [len_dS h]
  unfold len10
  have hle := dg_le (m := m.toNat) (k := figs.toNat) (by lia)
  have e : (10 ^ figs.toNat ≤ m) ↔ ¬ (m.toNat < 10 ^ figs.toNat) := by
    have h2 : ((10 ^ figs.toNat : Nat) : Int) = (10 : Int) ^ figs.toNat := by rw [Int.natCast_pow]; rfl
    rw [← h2]
    omega
  have e2 : figs < (((dg m.toNat).length : Nat) : Int) ↔ ¬ ((dg m.toNat).length ≤ figs.toNat) := by omega
  rw [decide_eq_decide, e, e2, hle]
theorem fn_shape {x d figs : Int} (h : PairOk x d) (hf : 1 ≤ figs ∧ figs ≤ 20) : Fn w 3 153 D [pr x d, .int figs] σ (.tup [.str (figT x d figs), .int (figE x d figs)]) σ := by
  have hm0 := mulOk0 (n := figs) (by lia)
  wtm_at "v_fill"
  refine Fn.intro (ps := ["pair", "digits"]) (by k_is) (by k_is) (us2 fun _ _ => by wtm_at "v_rfl") rfl (by decide) (fun L x hx => .inl (by revert x; decide)) rfl rfl rfl (fun L => ?_)
  wtm_at "v_up"
  with_reducible refine' Ex.ite ?gxe (fun c => ?gxa) (fun c => ?gxb)
  case gxe => wtm_at "v_tst"
  case gxa =>
    have c : x = 0 := by have := of_decide_eq_true c; split at this <;> omega
    wtm_at "v_ret"
    unfold figT figE
    rw [if_pos c, if_pos c]
  case gxb =>
    have c : x ≠ 0 := by have := of_decide_eq_false c; split at this <;> omega
    have hn := bab_pos c
    have hdx : Dig 150 (bab x) := h.dx.abs.mono (by decide)
    have hdd : Dig 150 d := h.dd.mono (by decide)
    have l1 := (hdx.mono (by decide : 150 ≤ 480)).str
    have l2 := (hdd.mono (by decide : 150 ≤ 480)).str
    have k1 := len_dS (bab_nonneg x)
    have k2 := len_dS (Int.le_of_lt h.d0)
    have k3 := len10_dig (bab_nonneg x) h.dx.abs (by decide)
    have k4 := len10_dig (Int.le_of_lt h.d0) h.dd (by decide)
    have k5 : (dS (bab x)).length < 2 ^ 62 := by omega
    have k6 : (dS d).length < 2 ^ 62 := by lia
    with_reducible refine' Ex.fin ?_
    wtm_at "v_asg"
    rw [k1, k2]
    have ee : expo (bab x) d = if bab x * 10 ^ (-((len10 (bab x) : Int) - len10 d)).toNat < d * 10 ^ ((len10 (bab x) : Int) - len10 d).toNat then (len10 (bab x) : Int) - len10 d - 1 else (len10 (bab x) : Int) - len10 d := rfl
    generalize hs : (len10 (bab x) : Int) - len10 d = s at ee ⊢
    have hsb : -140 ≤ s ∧ s ≤ 140 := by lia
    have q1 := mx_ge 0 (-s)
    have q2 := mx_ge 0 s
    have q3 := powOk (n := mx 0 (-s)) (Int.le_trans (mx_le 0 (-s) 140 (by decide) (Int.neg_le_neg hsb.1)) (by decide))
    have q4 := powOk (n := mx 0 s) (Int.le_trans (mx_le 0 s 140 (by decide) hsb.2) (by decide))
    have e1 := mx_nat s
    have e2 := mx_nat (-s)
    have q5 : IntMulOk (bab x) (10 ^ (mx 0 (-s)).toNat) := (hdx.mono (by decide)).mulOk (by rw [e2]; exact pw2k (Int.le_trans (Int.neg_le_neg hsb.1) (by decide)))
    have q6 : IntMulOk d (10 ^ (mx 0 s).toNat) := (hdd.mono (by decide)).mulOk (by rw [e1]; exact pw2k (Int.le_trans hsb.2 (by decide)))
    with_reducible refine' Ex.ifJ (fun ρ σ' => σ' = σ ∧ At ρ "n" (.int (bab x)) ∧ At ρ "d" (.int d) ∧ At ρ "digits" (.int figs) ∧ At ρ "spot" (.int (expo (bab x) d))) ?gxe (fun c2 => ?gxa) (fun c2 => ?gxb) ?gxr
    case gxe => wtm_at "v_tst"
    case gxa =>
      have c2 := of_decide_eq_true c2
      rw [e1, e2] at c2
      rw [if_pos c2] at ee
      wtm_at "v_aug"
      exact Ex.join ⟨rfl, by wtm_at "v_at", by wtm_at "v_at", by wtm_at "v_at", by rw [ee]; wtm_at "v_at"⟩
    case gxb =>
      have c2 := of_decide_eq_false c2
      rw [e1, e2] at c2
      rw [if_neg c2] at ee
      exact Ex.join ⟨rfl, by wtm_at "v_at", by wtm_at "v_at", by wtm_at "v_at", by rw [ee]; wtm_at "v_at"⟩
    case gxr =>
      rintro ρ' σ' ⟨rfl, r1, r2, r3, r4⟩
      have hb := h.bounds c
      have hx2 : Fn w 2 146 D [.int (bab x), .int d, .int (figs - 1 - expo (bab x) d)] σ' _ σ' := fn_lscaled (bab_nonneg x) hdx h.d0 hdd (spot0 hb hf)
      have hx3 : Fn w 2 146 D [.int (bab x), .int d, .int (figs - 1 - (expo (bab x) d + 1))] σ' _ σ' := fn_lscaled (bab_nonneg x) hdx h.d0 hdd (spot1 hb hf)
      have hl1 := (scl_dig (e := expo (bab x) d) h (figs := figs) (spot0 hb hf).1).str
      have hl2 := (scl_dig (e := expo (bab x) d + 1) h (figs := figs) (spot1 hb hf).1).str
      have hn1 := scl_nonneg (p := figs - 1 - expo (bab x) d) (bab_nonneg x) h.d0
      have hk := len10_dig hn1 (scl_dig (e := expo (bab x) d) h (figs := figs) (spot0 hb hf).1) (by decide)
      rw [← len_dS hn1] at hk
      have hk2 : (dS (scl (bab x) d (figs - 1 - expo (bab x) d))).length < 2 ^ 62 := Nat.lt_of_le_of_lt hk (by decide)
      wtm_at "v_asg"
      with_reducible refine' Ex.ite ?gxe (fun c2 => ?gxa) (fun c2 => ?gxb)
      case gxe => wtm_at "v_tst"
      case gxa =>
        rw [len_gt hn1 hf.1] at c2
        have c2 := of_decide_eq_true c2
        wtm_at "v_aug"
        wtm_at "v_asg"
        with_reducible refine' Ex.fin ?_
        wtm_at "v_ret"
        unfold figT figE figM shp
        rw [if_neg c, if_neg c, if_pos c2]
      case gxb =>
        rw [len_gt hn1 hf.1] at c2
        have c2 := of_decide_eq_false c2
        with_reducible refine' Ex.fin ?_
        wtm_at "v_ret"
        unfold figT figE figM shp
        rw [if_neg c, if_neg c, if_neg c2]
end

section
open PySem PySem.Spec PySem.Calls PySem.W PyProof.Rows
variable {w : World} {k : Nat} {D : Dm} {σ : List Val}
noncomputable def tailN (l : List Nat) : Nat → Nat
  | 0 => 0
  | 1 => 1
  | n + 2 => if l.getD (n + 1) 0 = 48 then tailN l (n + 1) else n + 2
theorem tailN_le (l : List Nat) : ∀ n, tailN l n ≤ n
  | 0 => Nat.le_refl _
  | 1 => Nat.le_refl _
  | n + 2 => by
    unfold tailN
    split
    · exact Nat.le_trans (tailN_le l (n + 1)) (Nat.le_succ _)
    · exact Nat.le_refl _
theorem tailN_pos (l : List Nat) : ∀ n, 0 < n → 0 < tailN l n
  | 0, h => absurd h (Nat.lt_irrefl _)
  | 1, _ => Nat.one_pos
  | n + 2, _ => by
    unfold tailN
    split
    · exact tailN_pos l (n + 1) (Nat.succ_pos _)
    · exact Nat.succ_pos _
theorem cut0_snoc (m : List Nat) (a : Nat) : cut0 (m ++ [a]) = if a = 48 then cut0 m else m ++ [a] := by
  unfold cut0
  rw [List.reverse_append]
  by_cases h : a = 48
  · subst h; simp
  · simp [h]
theorem tail_cut (l : List Nat) : ∀ n, 0 < n → n ≤ l.length → tailN l n = max 1 (cut0 (l.take n)).length
  | 0, h, _ => absurd h (Nat.lt_irrefl _)
  | 1, _, hl => by
    have h1 : (cut0 (l.take 1)).length ≤ 1 := by
      rw [cut0_len]
      have := List.length_take_le 1 l
      omega
    unfold tailN; lia
  | n + 2, _, hl => by
    have e : l.take (n + 2) = l.take (n + 1) ++ [l.getD (n + 1) 0] := by
      rw [List.take_add_one (i := n + 1)]
      have : l[n + 1]? = some (l.getD (n + 1) 0) := by
        rw [List.getD, List.getElem?_eq_getElem (by lia)]; rfl
      rw [this]; rfl
    rw [e, cut0_snoc]
    unfold tailN
    by_cases c : l.getD (n + 1) 0 = 48
    · rw [if_pos c, if_pos c]
      exact tail_cut l (n + 1) (Nat.succ_pos _) (by lia)
    · rw [if_neg c, if_neg c, List.length_append, List.length_take]
      simp only [List.length_cons, List.length_nil]
      lia
noncomputable def cnt (t : Str) : Nat := tailN t.cps.toList t.length
theorem fn_tail {t : Str} (hl : t.length ≤ 1000) : Fn w 1 63 D [.str t] σ (.str (tx (t.cps.toList.take (cnt t)))) σ := by
  obtain ⟨l, rfl⟩ := tx_of t
  unfold cnt
  rw [tx_len, tx_list]
  rw [tx_len] at hl
  have hl2 : (tx l).length < 2 ^ 62 := by rw [tx_len]; omega
  have hl3 : (tx l).length ≤ sizeLine := by rw [tx_len, sizeLine_eq]; lia
  have htl : (tx l).length = l.length := tx_len l
  wtm_at "v_fill"
  refine Fn.intro (ps := ["text"]) (by k_is) (by k_is) (us1 fun _ => by wtm_at "v_rfl") rfl (by decide) (fun L x hx => .inl (by revert x; decide)) rfl rfl rfl (fun L => ?_)
  wtm_at "v_asg"
  with_reducible refine' Ex.while (fun m ρ' σ' => ∃ e : Nat, m = e ∧ e ≤ l.length ∧ tailN l e = tailN l l.length ∧ σ' = σ ∧ At ρ' "text" (.str (tx l)) ∧ At ρ' "end" (.int (e : Int))) l.length ?gxh0 ?gxturn
  case gxh0 => exact ⟨l.length, rfl, Nat.le_refl _, rfl, rfl, by wtm_at "v_at", by rw [htl]; wtm_at "v_at"⟩
  case gxturn =>
    rintro e ρ' σ' ⟨_, rfl, he, ht, rfl, r1, r2⟩
    refine ⟨decide (1 < (e : Int)) && decide (Txt.item (tx l) ((e : Int) - 1) = Str.ofString "0"), ?_, ?_, ?_⟩
    · wtm_at "v_tst"
    · intro c
      rw [Bool.and_eq_true, decide_eq_true_eq, decide_eq_true_eq] at c
      obtain ⟨c1, c2⟩ := c
      rw [tx_item (by omega) (by lia), zero_tx] at c2
      have c3 := tx_inj c2
      wtm_at "v_aug"
      refine Ex.loopEnd ⟨e - 1, by omega, e - 1, rfl, by lia, ?_, rfl, by wtm_at "v_at", ?_⟩
      · rw [← ht]
        obtain ⟨n, rfl⟩ : ∃ n, e = n + 2 := ⟨e - 2, by lia⟩
        have e1 : ((n + 2 : Nat) : Int) - 1 = ((n + 1 : Nat) : Int) := by lia
        rw [e1] at c3
        have c4 : l.getD (n + 1) 0 = 48 := by simpa using c3
        show tailN l (n + 1) = tailN l (n + 2)
        rw [tailN, if_pos c4]
      · rw [show ((e - 1 : Nat) : Int) = (e : Int) - 1 by lia]; wtm_at "v_at"
    · intro c
      have hE : tailN l e = e := by
        match e, he, c with
        | 0, _, _ => rfl
        | 1, _, _ => rfl
        | n + 2, he, c =>
          rw [tailN, if_neg]
          intro c4
          rw [Bool.and_eq_false_iff, decide_eq_false_iff_not, decide_eq_false_iff_not] at c
          rcases c with c | c
          · omega
          · refine c ?_
            rw [tx_item (by lia) (by lia), zero_tx]
            have e1 : ((n + 2 : Nat) : Int) - 1 = ((n + 1 : Nat) : Int) := by lia
            rw [e1]
            show tx [l.getD (n + 1) 0] = _
            rw [c4]
      wtm_at "v_ret"
      rw [tx_to (by lia) (by lia), ← ht, hE]
      rfl
end

section
open PySem PySem.Spec PySem.Calls PySem.W PyProof.Rows
variable {w : World} {k : Nat} {D : Dm} {σ : List Val}
theorem cnt_eq {t : Str} (h : 0 < t.length) : mx 1 ((Txt.rstripChars t (Str.ofString "0")).length : Int) = (cnt t : Int) := by
  obtain ⟨l, rfl⟩ := tx_of t
  unfold cnt
  rw [tx_rstrip, tx_list, tx_len]
  rw [tx_len] at h
  rw [tail_cut l l.length h (Nat.le_refl _), List.take_length]
  unfold mx; split <;> lia
theorem cnt_le (t : Str) : cnt t ≤ t.length := tailN_le _ _
theorem cnt_pos {t : Str} (h : 0 < t.length) : 0 < cnt t := tailN_pos _ _ h
theorem figM_dig {x d figs : Int} (h : PairOk x d) (hx : x ≠ 0) (hf : 1 ≤ figs ∧ figs ≤ 20) : 0 ≤ (figM x d figs).1 ∧ Dig 480 (figM x d figs).1 := by
  have hb := h.bounds hx
  unfold figM shp
  split
  · exact ⟨scl_nonneg (bab_nonneg x) h.d0, scl_dig h (spot1 hb hf).1⟩
  · exact ⟨scl_nonneg (bab_nonneg x) h.d0, scl_dig h (spot0 hb hf).1⟩
theorem figT_len {x d figs : Int} (h : PairOk x d) (hf : 1 ≤ figs ∧ figs ≤ 20) : 0 < (figT x d figs).length ∧ Sm 480 (figT x d figs) := by
  unfold figT Sm
  split
  · rw [tx_mul, tx_len, List.length_replicate]; omega
  · rename_i hx
    obtain ⟨h0, hd⟩ := figM_dig h hx hf
    rw [len_dS h0]
    exact ⟨len10_pos, len10_dig h0 hd (by decide)⟩
theorem figE_bound {x d figs : Int} (h : PairOk x d) : -141 ≤ figE x d figs ∧ figE x d figs ≤ 141 := by
  unfold figE figM shp
  split
  · lia
  · rename_i hx
    have hb := h.bounds hx
    split <;> (dsimp only; omega)
theorem fn_needed {x d figs : Int} (h : PairOk x d) (hf : 1 ≤ figs ∧ figs ≤ 20) : Fn w 4 70 D [pr x d, .int figs] σ (.int (cnt (figT x d figs) : Int)) σ := by
  have hT := figT_len h hf
  have hT2 : (figT x d figs).length ≤ 480 := hT.2
  have hx1 : Fn w 3 56 D _ σ _ σ := fn_significant h hf
  have hx2 : Fn w 1 63 D _ σ _ σ := fn_tail (t := figT x d figs) (by lia)
  have hl := cnt_le (figT x d figs)
  have hlen : (tx ((figT x d figs).cps.toList.take (cnt (figT x d figs)))).length = cnt (figT x d figs) := by
    rw [tx_len, List.length_take]
    have : (figT x d figs).cps.toList.length = (figT x d figs).length := by simp [Str.length]
    lia
  have hs : (tx ((figT x d figs).cps.toList.take (cnt (figT x d figs)))).length < 2 ^ 62 := by lia
  wtm_at "v_fill"
  refine Fn.intro (ps := ["x", "digits"]) (by k_is) (by k_is) (us2 fun _ _ => by wtm_at "v_rfl") rfl (by decide) (fun L x hx => .inl (by revert x; decide)) rfl rfl rfl (fun L => ?_)
  wtm_at "v_ret"
  rw [hlen]
theorem fn_count {t : Str} (h0 : 0 < t.length) (h : Sm 480 t) : Fn w 1 160 D [.str t] σ (.int (cnt t : Int)) σ := by
  have hsz := sz_one h (by decide)
  have hle : (Txt.rstripChars t (Str.ofString "0")).length ≤ 480 := by
    obtain ⟨l, rfl⟩ := tx_of t
    have := h
    unfold Sm at this
    rw [tx_len] at this
    rw [tx_rstrip, cut0_len]
    omega
  have hl2 : (Txt.rstripChars t (Str.ofString "0")).length < 2 ^ 62 := by omega
  wtm_at "v_fill"
  refine Fn.intro (ps := ["row"]) (by k_is) (by k_is) (us1 fun _ => by wtm_at "v_rfl") rfl (by decide) (fun L x hx => .inl (by revert x; decide)) rfl rfl rfl (fun L => ?_)
  wtm_at "v_ret"
  rw [← cnt_eq h0]
end

section
open PySem PySem.Spec PySem.Calls PySem.W PyProof.Rows
variable {w : World} {k : Nat} {D : Dm} {σ : List Val}
theorem Sm.le {m n : Nat} {x : Str} (h : Sm m x) (hmn : m ≤ n) : Sm n x := Nat.le_trans h hmn
/-- the text of n, of two signs at least -/
noncomputable def two (n : Int) : Str := tx (List.replicate (2 - (dg n.toNat).length) 48 ++ dg n.toNat)
noncomputable def sciT (x d figs : Int) : Str :=
  (if x < 0 then Str.ofString "-" else Str.ofString "") ++ Txt.item (figT x d figs) 0 ++ (if 1 < figs then Str.ofString "." ++ Txt.slice (figT x d figs) (some 1) none else Str.ofString "") ++ (if figE x d figs < 0 then Str.ofString "e-" else Str.ofString "e+") ++ two (bab (figE x d figs))
theorem str_assoc (a b c : Str) : a ++ b ++ c = a ++ (b ++ c) := by
  show Str.mk ((Str.mk (a.cps ++ b.cps)).cps ++ c.cps) = Str.mk (a.cps ++ (Str.mk (b.cps ++ c.cps)).cps)
  simp
theorem str_nil : Str.ofString "" = tx [] := by decide +kernel
theorem str_add_nil (a : Str) : a ++ Str.ofString "" = a := by
  obtain ⟨l, rfl⟩ := tx_of a
  rw [str_nil, tx_add, List.append_nil]
theorem lt_iff {a b : Int} {α : Type} {x y : α} : (if decide (a < b) = true then x else y) = if a < b then x else y := by
  by_cases h : a < b
  · rw [if_pos h, if_pos (decide_eq_true h)]
  · rw [if_neg h, if_neg (by rw [decide_eq_false h]; decide)]
theorem sgn_lt {x : Int} : (sgn x < 0) = (x < 0) := by
  unfold sgn
  apply propext
  split
  · lia
  · split <;> lia
theorem two_rjust {n : Int} (h : 0 ≤ n) : Txt.rjustF (dS n) 2 48 = two n := by
  unfold dS two
  rw [dg_text h, tx_rjust]; rfl
theorem two_mul {n : Int} (h : 0 ≤ n) : Txt.mul (Str.ofString "0") (2 - ((dS n).length : Int)) ++ dS n = two n := by
  unfold dS two
  rw [tx_mul, dg_text h, tx_add, tx_len]
  have : (2 - ((dg n.toNat).length : Int)).toNat = 2 - (dg n.toNat).length := Int.toNat_sub' 2 _
  rw [this]
theorem padOk2 : PadOk 2 = true := by decide +kernel
theorem lit0_len : (Str.ofString "0").length = 1 := by decide +kernel
theorem fn_scientific {x d figs : Int} (h : PairOk x d) (hf : 1 ≤ figs ∧ figs ≤ 20) : Fn w 4 77 D [pr x d, .int figs] σ (.str (sciT x d figs)) σ := by
  obtain ⟨hT, hS⟩ := figT_len h hf
  have hE := figE_bound (figs := figs) h
  have hx1 : Fn w 3 56 D _ σ _ σ := fn_significant h hf
  have hd : Dig 480 (bab (figE x d figs)) := by
    unfold Dig bab
    refine Nat.lt_of_lt_of_le (m := 10 ^ 3) ?_ (Nat.pow_le_pow_right (by decide) (by decide))
    split <;> omega
  have hl := hd.str
  have hb := bab_nonneg (figE x d figs)
  have hsd : Sm 480 (dS (bab (figE x d figs))) := by
    unfold Sm; rw [len_dS hb]; exact len10_dig hb hd (by decide)
  have hs2 : (figT x d figs).length < 2 ^ 62 := sz_len hS (by decide)
  have h01 : (0 : Int) < (figT x d figs).length := by lia
  have hp2 := padOk2
  have h0l := lit0_len
  wtm_at "v_fill"
  refine Fn.intro (ps := ["x", "digits"]) (by k_is) (by k_is) (us2 fun _ _ => by wtm_at "v_rfl") rfl (by decide) (fun L x hx => .inl (by revert x; decide)) rfl rfl rfl (fun L => ?_)
  wtm_at "v_up"
  wtm_at "v_asg"
  wtm_at "v_asg"
  with_reducible refine' Ex.ifJ (fun ρ σ' => σ' = σ ∧ At ρ "e" (.int (figE x d figs)) ∧ At ρ "row" (.str ((if x < 0 then Str.ofString "-" else Str.ofString "") ++ Txt.item (figT x d figs) 0 ++ (if 1 < figs then Str.ofString "." ++ Txt.slice (figT x d figs) (some 1) none else Str.ofString "")))) ?gxe (fun c2 => ?gxa) (fun c2 => ?gxb) ?gxr
  case gxe => wtm_at "v_tst"
  case gxa =>
    have c2 := of_decide_eq_true c2
    wtm_at "v_asg"
    refine Ex.join ⟨rfl, by wtm_at "v_at", ?_⟩
    rw [if_pos c2, ← str_assoc]
    rw [lt_iff]
    simp only [sgn_lt]
    wtm_at "v_at"
  case gxb =>
    have c2 := of_decide_eq_false c2
    refine Ex.join ⟨rfl, by wtm_at "v_at", ?_⟩
    rw [if_neg c2, str_add_nil]
    rw [lt_iff]
    simp only [sgn_lt]
    wtm_at "v_at"
  case gxr =>
    rintro ρ' σ' ⟨rfl, r1, r2⟩
    generalize hR : ((if x < 0 then Str.ofString "-" else Str.ofString "") ++ Txt.item (figT x d figs) 0 ++ (if 1 < figs then Str.ofString "." ++ Txt.slice (figT x d figs) (some 1) none else Str.ofString "")) = R at r2
    have hRs : Sm 1000 R := by
      rw [← hR]
      refine' Sm.le ?gxm1 ?gxm2
      case gxm1 => wtm_at "v_sm"
      case gxm2 => decide
    wtm_at "v_ret"
    rw [lt_iff, fill48, two_rjust hb]
    unfold sciT
    rw [hR]
theorem e_minus : Str.ofString "e" ++ Str.ofString "-" = Str.ofString "e-" := by decide +kernel
theorem e_plus : Str.ofString "e" ++ Str.ofString "+" = Str.ofString "e+" := by decide +kernel
theorem fn_science {x d figs : Int} (h : PairOk x d) (hf : 1 ≤ figs ∧ figs ≤ 20) : Fn w 4 174 D [pr x d, .int figs] σ (.str (sciT x d figs)) σ := by
  obtain ⟨hT, hS⟩ := figT_len h hf
  have hE := figE_bound (figs := figs) h
  have hx1 : Fn w 3 153 D _ σ _ σ := fn_shape h hf
  have hd : Dig 480 (bab (figE x d figs)) := by
    unfold Dig bab
    refine Nat.lt_of_lt_of_le (m := 10 ^ 3) ?_ (Nat.pow_le_pow_right (by decide) (by decide))
    split <;> omega
  have hl := hd.str
  have hb := bab_nonneg (figE x d figs)
  have hsl : (dS (bab (figE x d figs))).length ≤ 480 := by
    rw [len_dS hb]; exact len10_dig hb hd (by decide)
  have hsd : Sm 480 (dS (bab (figE x d figs))) := hsl
  have hsl2 : (dS (bab (figE x d figs))).length < 2 ^ 62 := by omega
  have hm0 := mulOk0 (n := 2 - ((dS (bab (figE x d figs))).length : Int)) (by omega)
  have hml : Sm 2 (Txt.mul (Str.ofString "0") (2 - ((dS (bab (figE x d figs))).length : Int))) := by
    rw [tx_mul]; unfold Sm; rw [tx_len, List.length_replicate]; lia
  have hs2 : (figT x d figs).length < 2 ^ 62 := sz_len hS (by decide)
  have h01 : (0 : Int) < (figT x d figs).length := by omega
  wtm_at "v_fill"
  refine Fn.intro (ps := ["pair", "count"]) (by k_is) (by k_is) (us2 fun _ _ => by wtm_at "v_rfl") rfl (by decide) (fun L x hx => .inl (by revert x; decide)) rfl rfl rfl (fun L => ?_)
  wtm_at "v_up"
  wtm_at "v_asg"
  wtm_at "v_asg"
  wtm_at "v_asg"
  wtm_at "v_ret"
  rw [two_mul hb]
  unfold sciT
  simp only [lt_iff]
  congr 2
  rw [str_assoc]
  congr 1
  split
  · exact e_minus
  · exact e_plus
end

section
open PySem PySem.Spec PySem.Calls PySem.W PyProof.Rows
/-- k signs of q -/
noncomputable def ps : Nat → Nat → List Nat
  | 0, _ => []
  | k + 1, q => ps k (q / 10) ++ [48 + q % 10]
theorem dg_one {r : Nat} (h : r < 10) : dg r = [48 + r] := by
  unfold dg
  rw [Nat.toDigits_of_lt_base h]
  have : ∀ r, r < 10 → [(Nat.digitChar r).toNat] = [48 + r] := by decide
  exact this r h
theorem dg_step {q : Nat} (h : 10 ≤ q) : dg q = dg (q / 10) ++ [48 + q % 10] := by
  rw [← dg_one (Nat.mod_lt q (by decide))]
  unfold dg
  rw [← List.map_append, Nat.toDigits_append_toDigits (by decide) (by lia) (Nat.mod_lt q (by decide))]
  rw [Nat.div_add_mod]
theorem dg_ps : ∀ (k q : Nat), 10 ^ k ≤ q → dg q = dg (q / 10 ^ k) ++ ps k q
  | 0, q, _ => by simp [ps]
  | k + 1, q, h => by
    have hp : 1 ≤ 10 ^ k := Nat.pow_pos (by decide)
    rw [Nat.pow_succ] at h
    have h1 : 10 ^ k ≤ q / 10 := by rw [Nat.le_div_iff_mul_le (by decide)]; exact h
    rw [dg_step (by lia), dg_ps k (q / 10) h1, Nat.div_div_eq_div_mul, ps, Nat.pow_succ, Nat.mul_comm 10, List.append_assoc]
theorem ps_mod : ∀ (k q : Nat), ps k (q % 10 ^ k) = ps k q
  | 0, q => rfl
  | k + 1, q => by
    rw [ps, ps, Nat.pow_succ, Nat.mul_comm, Nat.mod_mul_right_div_self, Nat.mod_mul_right_mod, ps_mod k]
theorem ps_pad : ∀ (k r : Nat), 0 < k → r < 10 ^ k → ps k r = List.replicate (k - (dg r).length) 48 ++ dg r
  | 0, _, h, _ => absurd h (by decide)
  | 1, r, _, h => by
    rw [dg_one (by simpa using h)]
    simp [ps]
    omega
  | k + 2, r, _, h => by
    have h' : r < 10 ^ (k + 1) * 10 := h
    rw [ps, ps_pad (k + 1) (r / 10) (by lia) (by lia)]
    by_cases c : r < 10
    · rw [dg_one c, show r / 10 = 0 by lia, dg_one (by decide), List.append_assoc, Nat.mod_eq_of_lt c]
      show List.replicate (k + 1 - 1) 48 ++ ([48] ++ [48 + r]) = List.replicate (k + 2 - 1) 48 ++ [48 + r]
      rw [← List.append_assoc]
      congr 1
      show List.replicate k 48 ++ List.replicate 1 48 = _
      rw [List.replicate_append_replicate]
      rfl
    · rw [dg_step (q := r) (by lia), ← List.append_assoc]
      congr 2
      rw [List.length_append]
      simp
theorem dg_chunk {k q : Nat} (hk : 0 < k) (h : 10 ^ k ≤ q) : dg q = dg (q / 10 ^ k) ++ (List.replicate (k - (dg (q % 10 ^ k)).length) 48 ++ dg (q % 10 ^ k)) := by
  rw [dg_ps k q h, ← ps_pad k _ hk (Nat.mod_lt _ (Nat.pow_pos (by decide))), ps_mod]
theorem pad_len {k r : Nat} (hk : 0 < k) (h : r < 10 ^ k) : (List.replicate (k - (dg r).length) 48 ++ dg r).length = k := by
  have := (dg_le (m := r) hk).mpr h
  rw [List.length_append, List.length_replicate]; omega
theorem str_nil' : Str.ofString "" = ⟨#[]⟩ := by decide +kernel
theorem join_nil : ∀ (ls : List (List Nat)), Str.join ⟨#[]⟩ (ls.map tx) = tx ls.flatten
  | [] => rfl
  | [x] => by simp [Str.join, tx]
  | x :: y :: r => by
    have h := join_nil (y :: r)
    show Str.append (Str.append (tx x) ⟨#[]⟩) (Str.join ⟨#[]⟩ ((y :: r).map tx)) = _
    rw [h]
    simp [Str.append, tx]
/-- texts joined -/
theorem tx_join (ls : List (List Nat)) : Txt.join (Str.ofString "") (ls.map tx) = tx ls.flatten := by
  have h := PyProof.Rows.join_closes (sep := Str.ofString "") (sep' := Str.ofString "") (ys := ls.map tx) rfl
  rw [eq_of_beq h, str_nil', join_nil]
end

section
open PySem PySem.Spec PySem.Calls PySem.W PyProof.Rows
variable {w : World} {k : Nat} {D : Dm} {σ : List Val}
noncomputable abbrev stv (cs : List (List Nat)) : List Val := cs.map fun c => .str (tx c)
theorem stv_sc (cs : List (List Nat)) : (stv cs).all Val.sc = true := by
  rw [List.all_eq_true]
  intro x hx
  obtain ⟨c, _, rfl⟩ := List.mem_map.mp hx
  rfl
theorem pow18 : (10 : Int) ^ (18 : Int).toNat = 1000000000000000000 := by decide
/-- where the loop stands -/
noncomputable abbrev WholeI (n : Int) (m : Nat) (ρ : Rho) (σ : List Val) (q : Int) (cs : List (List Nat)) : Prop := (At ρ "rest" (.int q)) ∧ (At ρ "n" (.int n)) ∧ (At ρ "row" .cell) ∧ (0 ≤ q) ∧ (q ≤ n) ∧ (m = q.toNat) ∧ (σ = stv cs) ∧ (dg n.toNat = dg q.toNat ++ cs.reverse.flatten) ∧ (∀ c ∈ cs, c.length = 18)
theorem flat_len : ∀ (cs : List (List Nat)), (∀ c ∈ cs, c.length = 18) → cs.flatten.length = 18 * cs.length
  | [], _ => rfl
  | c :: cs, h => by
    rw [List.flatten_cons, List.length_append, flat_len cs fun c hc => h c (.tail _ hc), h c (.head _)]
    simp; lia
theorem WholeI.few {n : Int} {m : Nat} {ρ : Rho} {σ : List Val} {q : Int} {cs : List (List Nat)} (h : WholeI n m ρ σ q cs) (h0 : 0 ≤ n) (hd : Dig 480 n) : cs.length ≤ 26 := by
  obtain ⟨_, _, _, _, _, _, _, hall, hlens⟩ := h
  have h1 := congrArg List.length hall
  have h2 : (dg n.toNat).length ≤ 480 := len10_dig h0 hd (by decide)
  rw [List.length_append, flat_len cs.reverse fun c hc => hlens c (List.mem_reverse.mp hc), List.length_reverse] at h1
  lia
theorem p18 : (10 : Nat) ^ 18 = 1000000000000000000 := by decide
/-- a chunk taken off -/
noncomputable abbrev Chunk (q a b : Int) : Prop := (0 ≤ a) ∧ (0 ≤ b) ∧ (b < 1000000000000000000) ∧ (a.toNat = q.toNat / 10 ^ 18) ∧ (b.toNat = q.toNat % 10 ^ 18) ∧ (a.toNat < q.toNat) ∧ (a ≤ q) ∧ (10 ^ 18 ≤ q.toNat)
theorem chunk {q : Int} (h : 1000000000000000000 ≤ q) : Chunk q (q / 1000000000000000000) (q % 1000000000000000000) := by
  obtain ⟨m, rfl⟩ := Int.eq_ofNat_of_zero_le (Int.le_trans (by decide) h)
  have hm : 1000000000000000000 ≤ m := Int.ofNat_le.mp h
  have hlt : m / 1000000000000000000 < m := Nat.div_lt_self (Nat.lt_of_lt_of_le (by decide) hm) (by decide)
  refine ⟨Int.ediv_nonneg (Int.natCast_nonneg m) (by decide), Int.emod_nonneg _ (by decide), Int.emod_lt_of_pos _ (by decide), by rw [p18]; rfl, by rw [p18]; rfl, hlt, Int.ofNat_le.mpr (Nat.le_of_lt hlt), by rw [p18]; exact hm⟩
theorem small18 {b : Int} (h0 : 0 ≤ b) (h : b < 1000000000000000000) : Dig 480 b := by
  refine Dig.mono (j := 18) ?_ (by decide)
  unfold Dig
  rw [p18]
  exact Int.ofNat_lt.mp (by rw [Int.natAbs_of_nonneg h0]; exact h)
theorem le_mega {n : Nat} (h : n ≤ 26) : n ≤ 1000000 := Nat.le_trans h (by decide)
theorem fn_whole {ex : List Addr} {n : Int} (h0 : 0 ≤ n) (hd : Dig 480 n) : Fn w 1 35 ⟨.none, ex⟩ [.int n] [] (.str (dS n)) [] := by
  wtm_at "v_fill"
  refine Fn.intro (ps := ["n"]) (by k_is) (by k_is) (us1 fun _ => by wtm_at "v_rfl") rfl (by decide) (fun L x hx => .inl (by revert x; decide)) rfl rfl rfl (fun L => ?_)
  have habs : (if n < 0 then -n else n) = n := by split <;> lia
  have hpw := powOk (n := 18) (by decide)
  wtm_at "v_asg"
  refine Ex.newmut (fun c => ?_) (.inl (by wtm_at "v_rfl")) (by wtm_at "v_rfl")
  with_reducible refine' Ex.while (fun m ρ' σ' => ∃ q cs, WholeI n m ρ' σ' q cs) n.toNat ?gxh0 (fun m ρ' σ' hJ => ?gxturn)
  case gxh0 =>
    refine ⟨n, [], ⟨?_, by wtm_at "v_at", by wtm_at "v_at", h0, Int.le_refl _, rfl, rfl, by simp, fun c hc => by cases hc⟩⟩
    rw [habs]; wtm_at "v_at"
  case gxturn =>
    obtain ⟨q, cs, I⟩ := hJ
    have hc26 := I.few h0 hd
    obtain ⟨hR, hN, hW, Iq0, Iqn, Imm, Ist, Iall, Ilens⟩ := id I
    have hcl : σ'.length ≤ 26 := by rw [Ist, List.length_map]; exact hc26
    refine ⟨decide ((10 : Int) ^ (18 : Int).toNat ≤ q), ?_, ?_, ?_⟩
    · wtm_at "v_tst"
    · intro c
      have hq := of_decide_eq_true c
      rw [pow18] at hq
      have hdq : Dig 480 q := hd.of_le Iq0 Iqn
      have hd18 : Dig 2000 ((10 : Int) ^ (18 : Int).toNat) := Dig.mono (j := 19) (by unfold Dig; decide) (by decide)
      have hpy : Builtin.divisionGoesByPylong q ((10 : Int) ^ (18 : Int).toNat) = false := hd18.py
      have hne : (10 : Int) ^ (18 : Int).toNat ≠ 0 := by decide
      have e1 : Int.fdiv q ((10 : Int) ^ (18 : Int).toNat) = q / 1000000000000000000 := by rw [pow18, fdiv_eq (by decide)]
      have e2 : Int.fmod q ((10 : Int) ^ (18 : Int).toNat) = q % 1000000000000000000 := by rw [pow18, Int.fmod_eq_emod_of_nonneg _ (by decide)]
      obtain ⟨Ca0, Cb0, Cbl, n1, n2, Clt, Cle, Cbig⟩ := chunk hq
      have hmd : Dig 480 (Int.fmod q ((10 : Int) ^ (18 : Int).toNat)) := by
        rw [e2]
        exact small18 Cb0 Cbl
      have hms := hmd.str
      have hpad : PadOk 18 = true := by decide +kernel
      have h0l := lit0_len
      have hz : σ'.length ≤ 1000000 := le_mega hcl
      wtm_at "v_up"
      wtm_at "v_exp"
      rw [e1, e2]
      refine Ex.loopEnd ⟨(q / 1000000000000000000).toNat, ?_, q / 1000000000000000000, cs ++ [List.replicate (18 - (dg (q % 1000000000000000000).toNat).length) 48 ++ dg (q % 1000000000000000000).toNat], ⟨by wtm_at "v_at", by wtm_at "v_at", by wtm_at "v_at", Ca0, ?_, rfl, ?_, ?_, ?_⟩⟩
      · rw [Imm]; exact Clt
      · exact Int.le_trans Cle Iqn
      · rw [Ist, fill48]
        unfold stv
        rw [dg_text Cb0, tx_rjust, List.map_append]
        rfl
      · rw [Iall, n1, n2, List.reverse_append, List.reverse_singleton, List.flatten_append, dg_chunk (k := 18) (q := q.toNat) (by decide) Cbig]
        simp
      · intro c hc
        rcases List.mem_append.mp hc with hc | hc
        · exact Ilens c hc
        · rw [List.mem_singleton.mp hc, n2]
          exact pad_len (by decide) (Nat.mod_lt _ (Nat.pow_pos (by decide)))
    · intro c
      have hdq : Dig 480 q := hd.of_le Iq0 Iqn
      have hqs := hdq.str
      have hz : σ'.length ≤ 1000000 := le_mega hcl
      wtm_at "v_exp"
      with_reducible refine' Ex.ite ?gxe (fun c => ?gxa) (fun c => ?gxb)
      case gxe => wtm_at "v_tst"
      case gxa => exact absurd (of_decide_eq_true c) (by lia)
      case gxb =>
        with_reducible refine' Ex.fin ?_
        have hz : (σ' ++ [Val.str (Str.ofString (toString q))]).length ≤ 1000000 := by rw [List.length_append]; simp; lia
        wtm_at "v_exp"
        have hs : (σ' ++ [Val.str (Str.ofString (toString q))]).reverse = (((cs ++ [dg q.toNat]).reverse).map tx).map Val.str := by
          rw [Ist, dg_text Iq0]
          simp
        rw [hs]
        have hfl : ((cs ++ [dg q.toNat]).reverse).flatten = dg n.toNat := by
          rw [Iall, List.reverse_append, List.reverse_singleton, List.flatten_append]
          simp
        have hj1 : (Str.ofString "").length ≤ 64 := by decide +kernel
        have hj2 : ((((cs ++ [dg q.toNat]).reverse).map tx).map (·.length)).sum + (((cs ++ [dg q.toNat]).reverse).map tx).length * 64 ≤ 16777216 := by
          have h1 := congrArg List.length hfl
          have h2 : (dg n.toNat).length ≤ 480 := len10_dig h0 hd (by decide)
          rw [List.length_flatten] at h1
          have h3 : (((cs ++ [dg q.toNat]).reverse).map tx).map (·.length) = ((cs ++ [dg q.toNat]).reverse).map List.length := by
            rw [List.map_map]
            apply List.map_congr_left
            intro l _
            exact tx_len l
          rw [h3, h1]
          rw [List.length_map, List.length_reverse, List.length_append]
          simp; lia
        with_reducible refine' Ex.ret ?gxev ?gxpo
        case gxev => wtm_at "v_ev"
        case gxpo =>
          refine ⟨?_, rfl, ?_, rfl⟩
          · intro _
            rw [List.map_map]
            exact stv_sc _
          · show Val.str (Txt.join _ _) = _
            rw [tx_join, hfl]
            unfold dS
            rw [dg_text h0]
end

section
open PySem PySem.Spec PySem.Calls PySem.W PyProof.Rows
variable {w : World} {k : Nat} {D : Dm} {σ : List Val}
/-- the figures of n, with more than p of them -/
noncomputable def padL (n p : Int) : List Nat := List.replicate ((p + 1).toNat - (dg n.toNat).length) 48 ++ dg n.toNat
/-- with the point -/
noncomputable def fixB (l : List Nat) (p : Int) : Str :=
  if 0 < p then tx (l.take (l.length - p.toNat)) ++ Str.ofString "." ++ tx (l.drop (l.length - p.toNat)) else tx l
noncomputable def fixT (x d p : Int) : Str :=
  (if x < 0 then Str.ofString "-" else Str.ofString "") ++ fixB (padL (scl (bab x) d p) p) p
theorem padL_len {n p : Int} (hp : 0 ≤ p) : p.toNat < (padL n p).length := by
  unfold padL
  rw [List.length_append, List.length_replicate]
  exact Nat.lt_of_lt_of_le (Nat.lt_of_lt_of_eq (Nat.lt_succ_self _) (Int.toNat_add_nat hp 1).symm) (Nat.sub_le_iff_le_add.mp (Nat.le_refl _))
theorem padL_le {n p : Int} (h0 : 0 ≤ n) (hd : Dig 480 n) (hp : p ≤ 200) : (padL n p).length ≤ 700 := by
  have h2 : (dg n.toNat).length ≤ 480 := len10_dig h0 hd (by decide)
  unfold padL
  rw [List.length_append, List.length_replicate]
  exact Nat.le_trans (Nat.add_le_add (Nat.le_trans (Nat.sub_le _ _) (Int.toNat_le.mpr (by lia) : (p + 1).toNat ≤ 201)) h2) (by decide)
theorem pad_rjust {n p : Int} (h : 0 ≤ n) : Txt.rjustF (dS n) (p + 1) 48 = tx (padL n p) := by
  unfold dS padL
  rw [dg_text h, tx_rjust]
theorem pad_mul {n p : Int} (h : 0 ≤ n) : Txt.mul (Str.ofString "0") (p + 1 - ((dS n).length : Int)) ++ dS n = tx (padL n p) := by
  unfold dS padL
  rw [tx_mul, dg_text h, tx_add, tx_len]
  have : (p + 1 - ((dg n.toNat).length : Int)).toNat = (p + 1).toNat - (dg n.toNat).length := Int.toNat_sub' _ _
  rw [this]
theorem padOk {p : Int} (h : 0 ≤ p ∧ p ≤ 200) : PadOk (p + 1) = true := by
  unfold PadOk Builtin.Str.tooLong
  rw [Bool.and_eq_true]
  refine ⟨?_, ?_⟩
  · show (!(decide (p + 1 < -(2 ^ 63 : Int)) || decide (p + 1 ≥ 2 ^ 63))) = true
    rw [decide_eq_false (by lia), decide_eq_false (by lia)]; rfl
  · rw [sizeLine_eq, decide_eq_false (by lia)]; rfl
theorem nil_add (a : Str) : Str.ofString "" ++ a = a := by
  obtain ⟨l, rfl⟩ := tx_of a
  rw [str_nil, tx_add, List.nil_append]
theorem fixB_sm {l : List Nat} {p : Int} (h : l.length ≤ 700) : Sm 1500 (fixB l p) := by
  have hd : (Str.ofString ".").length = 1 := by decide +kernel
  unfold fixB
  split
  · refine Sm.le (Sm.app (Sm.app (m := 700) (n := 20) ?_ ?_) (n := 700) ?_) (by decide)
    · unfold Sm; rw [tx_len, List.length_take]; omega
    · unfold Sm; lia
    · unfold Sm; rw [tx_len, List.length_drop]; omega
  · unfold Sm; rw [tx_len]; lia
theorem len_p {l : List Nat} {p : Int} (h0 : 0 ≤ p) (h1 : p.toNat < l.length) : p ≤ (l.length : Int) := by
  rw [← Int.toNat_of_nonneg h0]; exact Int.ofNat_le.mpr (Nat.le_of_lt h1)
theorem slice_lo {l : List Nat} {p : Int} (h0 : 0 ≤ p) (h1 : p.toNat < l.length) : Txt.slice (tx l) none (some (((tx l).length : Int) - p)) = tx (l.take (l.length - p.toNat)) := by
  rw [tx_len, tx_to (Int.sub_nonneg_of_le (len_p h0 h1)) (Int.sub_le_self _ h0), len_sub h0]
theorem slice_hi {l : List Nat} {p : Int} (h0 : 0 ≤ p) (h1 : p.toNat < l.length) : Txt.slice (tx l) (some (((tx l).length : Int) - p)) none = tx (l.drop (l.length - p.toNat)) := by
  rw [tx_len, tx_from (Int.sub_nonneg_of_le (len_p h0 h1)) (Int.sub_le_self _ h0), len_sub h0]
theorem sz_tx {l : List Nat} (h : l.length ≤ 700) : (tx l).length < 2 ^ 62 ∧ (tx l).length ≤ sizeLine ∧ Sm 700 (tx l) := by
  unfold Sm
  rw [tx_len, sizeLine_eq]
  exact ⟨Nat.lt_of_le_of_lt h (by decide), Nat.le_trans h (by decide), h⟩
theorem fn_fixed {ex : List Addr} {x d p : Int} (h : PairOk x d) (hp : 0 ≤ p ∧ p ≤ 200) : Fn w 2 84 ⟨.none, ex⟩ [pr x d, .int p] [] (.str (fixT x d p)) [] := by
  have hdb : Dig 150 (bab x) := (h.dx.mono (by decide : 140 ≤ 150)).abs
  have hdd : Dig 150 d := h.dd.mono (by decide)
  have hf : Fn w 1 21 ⟨.none, ex⟩ _ [] _ [] := fn_near (near_up (bab_nonneg x) hdb h.d0 hdd hp.2)
  have hm : IntMulOk _ _ := (hdb.mono (by decide)).mulOk (Dig.pow.mono (by lia) : Dig 2000 (10 ^ p.toNat))
  have hw := powOk (n := p) (by omega)
  have e1 := scl_pos (n := bab x) (d := d) hp.1
  have hn0 := scl_nonneg (p := p) (bab_nonneg x) h.d0
  have hnd : Dig 480 (scl (bab x) d p) := (Dig.scl (j := 140) (k := 200) h.dx.abs (bab_nonneg x) h.d0 (by lia)).mono (by decide)
  have hg : Fn w 1 35 ⟨.none, ex⟩ _ [] _ [] := fn_whole hn0 hnd
  have hpd := padOk hp
  have h0l := lit0_len
  have hl1 := padL_len (n := scl (bab x) d p) hp.1
  have hl2 := padL_le hn0 hnd hp.2
  rw [e1] at hf
  wtm_at "v_fill"
  refine Fn.intro (ps := ["x", "places"]) (by k_is) (by k_is) (us2 fun _ _ => by wtm_at "v_rfl") rfl (by decide) (fun L x hx => .inl (by revert x; decide)) rfl rfl rfl (fun L => ?_)
  wtm_at "v_asg"
  wtm_at "v_asg"
  rw [fill48, pad_rjust hn0]
  generalize hL : padL (scl (bab x) d p) p = l at hl1 hl2
  obtain ⟨hs1, hs2, hs3⟩ := sz_tx hl2
  with_reducible refine' Ex.ifJ (fun ρ σ' => σ' = [] ∧ At ρ "x" (pr x d) ∧ At ρ "text" (.str (fixB l p))) ?gxe (fun c2 => ?gxa) (fun c2 => ?gxb) ?gxr
  case gxe => wtm_at "v_tst"
  case gxa =>
    have c2 := of_decide_eq_true c2
    have e2 := slice_lo hp.1 hl1
    have e3 := slice_hi hp.1 hl1
    wtm_at "v_asg"
    refine Ex.join ⟨rfl, by wtm_at "v_at", ?_⟩
    rw [e2, e3]
    unfold fixB
    rw [if_pos c2]
    wtm_at "v_at"
  case gxb =>
    have c2 := of_decide_eq_false c2
    refine Ex.join ⟨rfl, by wtm_at "v_at", ?_⟩
    unfold fixB
    rw [if_neg c2]
    wtm_at "v_at"
  case gxr =>
    rintro ρ' σ' ⟨rfl, r1, r2⟩
    have s1 := fixB_sm (p := p) hl2
    with_reducible refine' Ex.ite ?gxe (fun c => ?gxa) (fun c => ?gxb)
    case gxe => wtm_at "v_tst"
    case gxa =>
      have c := of_decide_eq_true c
      wtm_at "v_ret"
      unfold fixT
      rw [if_pos c, hL]
    case gxb =>
      have c := of_decide_eq_false c
      with_reducible refine' Ex.fin ?_
      wtm_at "v_ret"
      unfold fixT
      rw [if_neg c, hL, nil_add]
theorem fn_lfixed {x d p : Int} (h : PairOk x d) (hp : 0 ≤ p ∧ p ≤ 200) : Fn w 3 167 D [pr x d, .int p] σ (.str (fixT x d p)) σ := by
  have hdb : Dig 150 (bab x) := (h.dx.mono (by decide : 140 ≤ 150)).abs
  have hdd : Dig 150 d := h.dd.mono (by decide)
  have hf : Fn w 2 146 D [.int (bab x), .int d, .int p] σ _ σ := fn_lscaled (bab_nonneg x) hdb h.d0 hdd (by lia)
  have hn0 := scl_nonneg (p := p) (bab_nonneg x) h.d0
  have hnd : Dig 480 (scl (bab x) d p) := (Dig.scl (j := 140) (k := 200) h.dx.abs (bab_nonneg x) h.d0 (by omega)).mono (by decide)
  have hst := hnd.str
  have hk := len10_dig hn0 hnd (by decide)
  rw [← len_dS hn0] at hk
  have hk2 : (dS (scl (bab x) d p)).length < 2 ^ 62 := by omega
  have hks : Sm 480 (dS (scl (bab x) d p)) := hk
  have hm0 := mulOk0 (n := p + 1 - ((dS (scl (bab x) d p)).length : Int)) (by omega)
  have hml : Sm 300 (Txt.mul (Str.ofString "0") (p + 1 - ((dS (scl (bab x) d p)).length : Int))) := by
    rw [tx_mul]; unfold Sm; rw [tx_len, List.length_replicate]; omega
  have hl1 := padL_len (n := scl (bab x) d p) hp.1
  have hl2 := padL_le hn0 hnd hp.2
  wtm_at "v_fill"
  refine Fn.intro (ps := ["pair", "places"]) (by k_is) (by k_is) (us2 fun _ _ => by wtm_at "v_rfl") rfl (by decide) (fun L x hx => .inl (by revert x; decide)) rfl rfl rfl (fun L => ?_)
  wtm_at "v_asg"
  wtm_at "v_asg"
  rw [pad_mul hn0]
  generalize hL : padL (scl (bab x) d p) p = l at hl1 hl2
  obtain ⟨hs1, hs2, hs3⟩ := sz_tx hl2
  with_reducible refine' Ex.ifJ (fun ρ σ' => σ' = σ ∧ At ρ "pair" (pr x d) ∧ At ρ "row" (.str (fixB l p))) ?gxe (fun c2 => ?gxa) (fun c2 => ?gxb) ?gxr
  case gxe => wtm_at "v_tst"
  case gxa =>
    have c2 := of_decide_eq_true c2
    have e2 : Txt.slice (tx l) none (some (-p)) = tx (l.take (l.length - p.toNat)) := tx_toN c2 (len_p hp.1 hl1)
    have e3 : Txt.slice (tx l) (some (-p)) none = tx (l.drop (l.length - p.toNat)) := tx_fromN c2 (len_p hp.1 hl1)
    wtm_at "v_asg"
    refine Ex.join ⟨rfl, by wtm_at "v_at", ?_⟩
    rw [e2, e3]
    unfold fixB
    rw [if_pos c2]
    wtm_at "v_at"
  case gxb =>
    have c2 := of_decide_eq_false c2
    refine Ex.join ⟨rfl, by wtm_at "v_at", ?_⟩
    unfold fixB
    rw [if_neg c2]
    wtm_at "v_at"
  case gxr =>
    rintro ρ' σ' ⟨rfl, r1, r2⟩
    have s1 := fixB_sm (p := p) hl2
    wtm_at "v_ret"
    unfold fixT
    rw [lt_iff, hL]
end

section
open PySem PySem.Spec PySem.Calls PySem.W PyProof.Rows
variable {w : World} {k : Nat} {D : Dm} {σ : List Val}
noncomputable def leftM (x d figs : Int) : Int := mx (figE x d figs) 0 + 1 + (if x < 0 then 1 else 0)
noncomputable def plM (x d figs : Int) : Int := mx ((cnt (figT x d figs) : Int) - 1 - figE x d figs) 0
theorem fn_measures {x d figs : Int} (h : PairOk x d) (hf : 1 ≤ figs ∧ figs ≤ 20) : Fn w 4 91 D [pr x d, .int figs] σ (.tup [.int (cnt (figT x d figs) : Int), .int (leftM x d figs), .int (plM x d figs), .int (figE x d figs)]) σ := by
  have hT := figT_len h hf
  have hT2 : (figT x d figs).length ≤ 480 := hT.2
  have hx1 : Fn w 3 56 D _ σ _ σ := fn_significant h hf
  have hx2 : Fn w 1 63 D _ σ _ σ := fn_tail (t := figT x d figs) (by lia)
  have hl := cnt_le (figT x d figs)
  have hlen : (tx ((figT x d figs).cps.toList.take (cnt (figT x d figs)))).length = cnt (figT x d figs) := by
    rw [tx_len, List.length_take]
    have : (figT x d figs).cps.toList.length = (figT x d figs).length := by simp [Str.length]
    lia
  have hs : (tx ((figT x d figs).cps.toList.take (cnt (figT x d figs)))).length < 2 ^ 62 := by lia
  wtm_at "v_fill"
  refine Fn.intro (ps := ["x", "digits"]) (by k_is) (by k_is) (us2 fun _ _ => by wtm_at "v_rfl") rfl (by decide) (fun L x hx => .inl (by revert x; decide)) rfl rfl rfl (fun L => ?_)
  wtm_at "v_up"
  wtm_at "v_asg"
  wtm_at "v_asg"
  rw [hlen]
  with_reducible refine' Ex.ifJ (fun ρ σ' => σ' = σ ∧ At ρ "count" (.int (cnt (figT x d figs) : Int)) ∧ At ρ "left" (.int (leftM x d figs)) ∧ At ρ "e" (.int (figE x d figs))) ?gxe (fun c2 => ?gxa) (fun c2 => ?gxb) ?gxr
  case gxe => wtm_at "v_tst"
  case gxa =>
    have c2 := of_decide_eq_true c2
    wtm_at "v_aug"
    refine Ex.join ⟨rfl, by wtm_at "v_at", ?_, by wtm_at "v_at"⟩
    unfold leftM
    rw [if_pos c2]
    wtm_at "v_at"
  case gxb =>
    have c2 := of_decide_eq_false c2
    refine Ex.join ⟨rfl, by wtm_at "v_at", ?_, by wtm_at "v_at"⟩
    unfold leftM
    rw [if_neg c2, Int.add_zero]
    wtm_at "v_at"
  case gxr =>
    rintro ρ' σ' ⟨rfl, r1, r2, r3⟩
    wtm_at "v_ret"
    rfl
/-- the drawn things: none, or a pair -/
noncomputable abbrev Px := Option (Int × Int)
noncomputable def Px.val : Px → Val
  | .none => .none
  | some (x, d) => pr x d
noncomputable def Px.Ok : Px → Prop
  | .none => True
  | some (x, d) => PairOk x d ∨ (d = 0 ∧ (x = 0 ∨ x = 1 ∨ x = -1))
noncomputable def Px.num : Px → Bool
  | .none => false
  | some (_, d) => decide (0 < d)
noncomputable def spT : Px → Str
  | .none => Str.ofString "NA"
  | some (x, _) => if x = 0 then Str.ofString "NaN" else if 0 < x then Str.ofString "Inf" else Str.ofString "-Inf"
noncomputable def spV (p : Px) : Val := if p.num then .none else .str (spT p)
theorem fn_special {p : Px} (hp : p.Ok) : Fn w 1 42 D [p.val] σ (spV p) σ := by
  unfold spV
  wtm_at "v_fill"
  refine Fn.intro (ps := ["x"]) (by k_is) (by k_is) (us1 fun _ => by wtm_at "v_rfl") rfl (by decide) (fun L x hx => .inl (by revert x; decide)) rfl rfl rfl (fun L => ?_)
  cases p with
  | none =>
    with_reducible refine' Ex.ite ?gxe (fun c => ?gxa) (fun c => ?gxb)
    case gxe => wtm_at "v_tst"
    case gxa => wtm_at "v_ret"; rfl
    case gxb => exact absurd c (by decide)
  | some p =>
    obtain ⟨x, d⟩ := p
    have hn : Px.num (some (x, d)) = decide (0 < d) := rfl
    with_reducible refine' Ex.ite ?gxe (fun c => ?gxa) (fun c => ?gxb)
    case gxe => wtm_at "v_tst"
    case gxa => exact Bool.noConfusion c
    case gxb =>
      with_reducible refine' Ex.fin ?_
      with_reducible refine' Ex.ite ?gxe (fun c => ?gxa) (fun c => ?gxb)
      case gxe => wtm_at "v_tst"
      case gxa =>
        have c := of_decide_eq_true c
        wtm_at "v_ret"
        rw [hn, if_pos (decide_eq_true c)]
      case gxb =>
        have c := of_decide_eq_false c
        with_reducible refine' Ex.fin ?_
        rw [hn, if_neg (by rw [decide_eq_false c]; decide)]
        unfold spT
        with_reducible refine' Ex.ite ?gxe (fun c => ?gxa) (fun c => ?gxb)
        case gxe => wtm_at "v_tst"
        case gxa =>
          have c := of_decide_eq_true c
          wtm_at "v_ret"
          simp only [if_pos c]
        case gxb =>
          have c := of_decide_eq_false c
          with_reducible refine' Ex.fin ?_
          wtm_at "v_ret"
          simp only [if_neg c, lt_iff]
end

section
open PySem PySem.Spec PySem.Calls PySem.W PyProof.Rows
variable {w : World} {k : Nat} {D : Dm} {σ : List Val}
theorem tn_split {A B C P : Nat} {p e : Int} (h1 : (C : Int) - B = e) (h2 : (P : Int) = p) (h3 : (A : Int) = p + e + 1) : A + B = C + 1 + P := by lia
theorem tn1 {p e : Int} (hp : 0 ≤ p) (h : 0 ≤ p + e + 1) : (p + e + 1).toNat + (-e).toNat = e.toNat + 1 + p.toNat :=
  tn_split (Int.toNat_sub_toNat_neg e) (Int.toNat_of_nonneg hp) (Int.toNat_of_nonneg h)
theorem tn_split2 {A B C : Nat} {p e : Int} (h1 : (A : Int) = -p) (h2 : (B : Int) = p + e + 1) (h3 : (C : Int) = e) : A + B = C + 1 := by lia
theorem tn2 {p e : Int} (hp : p ≤ 0) (h : 0 ≤ p + e + 1) (he : 0 ≤ e) : (-p).toNat + (p + e + 1).toNat = e.toNat + 1 :=
  tn_split2 (Int.toNat_of_nonneg (Int.neg_nonneg_of_nonpos hp)) (Int.toNat_of_nonneg h) (Int.toNat_of_nonneg he)
theorem scl_le {n d e p : Int} (h : IsExp n d e) (hn : 0 ≤ n) (hd : 0 < d) (hp : 0 ≤ p + e + 1) : scl n d p ≤ 10 ^ (p + e + 1).toNat := by
  obtain ⟨_, h2⟩ := h
  unfold scl
  split
  · rename_i c
    refine near_le (Int.mul_nonneg hn (Int.le_of_lt (pow10_pos _))) hd ?_
    have ha := pow10_pos (-e).toNat
    refine Int.lt_of_mul_lt_mul_right (a := 10 ^ (-e).toNat) ?_ (Int.le_of_lt ha)
    have h3 := Int.mul_lt_mul_of_pos_right h2 (pow10_pos p.toNat)
    have e1 : n * 10 ^ p.toNat * 10 ^ (-e).toNat = n * 10 ^ (-e).toNat * 10 ^ p.toNat := by
      rw [Int.mul_assoc, Int.mul_comm (10 ^ p.toNat), ← Int.mul_assoc]
    have e2 : d * 10 ^ (p + e + 1).toNat * 10 ^ (-e).toNat = 10 * (d * 10 ^ e.toNat) * 10 ^ p.toNat := by
      rw [Int.mul_assoc, ← Int.pow_add, Int.mul_comm 10, Int.mul_assoc, Int.mul_assoc d, Int.mul_comm 10, ← Int.mul_assoc (10 ^ e.toNat), ← Int.pow_add, ← Int.pow_succ]
      rw [tn1 c hp, Nat.add_right_comm]
    rw [e1, e2]
    exact h3
  · rename_i c
    refine near_le hn (Int.mul_pos hd (pow10_pos _)) ?_
    have e0 : (-e).toNat = 0 := by lia
    rw [e0, Int.pow_zero, Int.mul_one] at h2
    have e2 : d * 10 ^ (-p).toNat * 10 ^ (p + e + 1).toNat = 10 * (d * 10 ^ e.toNat) := by
      rw [Int.mul_assoc, ← Int.pow_add, Int.mul_comm 10, Int.mul_assoc, ← Int.pow_succ]
      rw [tn2 (Int.le_of_not_le c) hp (by lia)]
    rw [e2]
    exact h2
theorem figM_lt {x d figs : Int} (h : PairOk x d) (hx : x ≠ 0) (hf : 1 ≤ figs) : (figM x d figs).1 < 10 ^ figs.toNat := by
  have he := isExp_expo (bab_pos hx) h.d0
  unfold figM shp
  split
  · have := scl_le (p := figs - 1 - (expo (bab x) d + 1)) he (bab_nonneg x) h.d0 (by lia)
    dsimp only
    have e1 : (figs - 1 - (expo (bab x) d + 1) + expo (bab x) d + 1).toNat = figs.toNat - 1 := by
      rw [show figs - 1 - (expo (bab x) d + 1) + expo (bab x) d + 1 = figs - 1 by lia]
      exact Int.toNat_sub' figs 1
    rw [e1] at this
    have e2 : (10 : Int) ^ figs.toNat = 10 ^ (figs.toNat - 1) * 10 := by
      rw [← Int.pow_succ, show (figs.toNat - 1).succ = figs.toNat from Nat.sub_add_cancel (Int.lt_toNat.mpr hf)]
    have := pow10_pos (figs.toNat - 1)
    omega
  · dsimp only
    omega
theorem figT_few {x d figs : Int} (h : PairOk x d) (hf : 1 ≤ figs ∧ figs ≤ 20) : ((figT x d figs).length : Int) ≤ figs := by
  unfold figT
  split
  · rw [tx_mul, tx_len, List.length_replicate]; lia
  · rename_i hx
    obtain ⟨h0, hd⟩ := figM_dig h hx hf
    have h1 := figM_lt h hx hf.1
    rw [len_dS h0]
    unfold len10
    have h2 : (dg (figM x d figs).1.toNat).length ≤ figs.toNat := by
      rw [dg_le (by omega)]
      have : ((10 ^ figs.toNat : Nat) : Int) = (10 : Int) ^ figs.toNat := by rw [Int.natCast_pow]; rfl
      omega
    lia
noncomputable abbrev cntI (x d figs : Int) : Int := (cnt (figT x d figs) : Int)
theorem cntI_bound {x d figs : Int} (h : PairOk x d) (hf : 1 ≤ figs ∧ figs ≤ 20) : 1 ≤ cntI x d figs ∧ cntI x d figs ≤ 20 := by
  have h1 := figT_few h hf
  have h2 := cnt_le (figT x d figs)
  have h3 := cnt_pos (figT_len h hf).1
  unfold cntI
  lia
theorem plM_bound {x d figs : Int} (h : PairOk x d) (hf : 1 ≤ figs ∧ figs ≤ 20) : 0 ≤ plM x d figs ∧ plM x d figs ≤ 200 := by
  have h1 := cntI_bound h hf
  have h2 := figE_bound (figs := figs) h
  unfold cntI at h1
  unfold plM mx
  split <;> lia
theorem mxl (l : List Int) : ∀ a : Int, l.foldl mx a ∈ a :: l ∧ ∀ b ∈ a :: l, b ≤ l.foldl mx a := by
  induction l with
  | nil => intro a; exact ⟨.head _, fun b hb => by rw [List.mem_singleton.mp hb]; exact Int.le_refl _⟩
  | cons x l ih =>
    intro a
    obtain ⟨h1, h2⟩ := ih (mx a x)
    rw [List.foldl_cons]
    refine ⟨?_, fun b hb => ?_⟩
    · rcases List.mem_cons.mp h1 with h | h
      · rw [h]
        unfold mx
        split
        · exact .tail _ (.head _)
        · exact .head _
      · exact .tail _ (.tail _ h)
    · have h3 := h2 _ (.head _)
      have h4 := mx_ge a x
      have h5 := mx_ge' a x
      rcases List.mem_cons.mp hb with h | h
      · omega
      · rcases List.mem_cons.mp h with h | h
        · omega
        · exact h2 b (.tail _ h)
theorem mxl_bound {l : List Int} {a lo hi : Int} (ha : lo ≤ a ∧ a ≤ hi) (hl : ∀ b ∈ l, b ≤ hi) : lo ≤ l.foldl mx a ∧ l.foldl mx a ≤ hi := by
  obtain ⟨h1, h2⟩ := mxl l a
  have h3 := h2 a (.head _)
  refine ⟨by omega, ?_⟩
  rcases List.mem_cons.mp h1 with h | h
  · omega
  · exact hl _ h
noncomputable abbrev Pr := Int × Int
noncomputable abbrev prs (P : List Pr) : List Val := P.map fun q => pr q.1 q.2
noncomputable def cntF (P : List Pr) (figs : Int) : Int := (P.map fun q => cntI q.1 q.2 figs).foldl mx 1
noncomputable def leftF (P : List Pr) (figs : Int) : Int := (P.map fun q => leftM q.1 q.2 figs).foldl mx 1
noncomputable def plF (P : List Pr) (figs : Int) : Int := (P.map fun q => plM q.1 q.2 figs).foldl mx 0
noncomputable def wdM (x d figs : Int) : Int := ((dS (bab (figE x d figs))).length : Int) - 2
noncomputable def wdF (P : List Pr) (figs : Int) : Int := ((P.filter fun q => decide (99 < bab (figE q.1 q.2 figs))).map fun q => wdM q.1 q.2 figs).foldl mx 0
noncomputable def mnF (P : List Pr) : Int := if (P.any fun q => decide (q.1 < 0)) = true then 1 else 0
theorem snoc_map {f : Pr → Int} {P : List Pr} {q : Pr} {a : Int} : ((P ++ [q]).map f).foldl mx a = mx ((P.map f).foldl mx a) (f q) := by
  rw [List.map_append, List.foldl_append]; rfl
theorem take_snoc {α : Type} {P : List α} {i : Nat} {q : α} (h : P[i]? = some q) : P.take (i + 1) = P.take i ++ [q] := by
  rw [List.take_add_one, h]; rfl
theorem prs_get {P : List Pr} {i : Nat} {v : Val} (h : (prs P)[i]? = some v) : ∃ q, P[i]? = some q ∧ v = pr q.1 q.2 := by
  rw [List.getElem?_map] at h
  cases e : P[i]? with
  | none => rw [e] at h; cases h
  | some q => rw [e] at h; exact ⟨q, rfl, by cases h; rfl⟩
noncomputable abbrev POk (P : List Pr) : Prop := ∀ q ∈ P, PairOk q.1 q.2
noncomputable def fixW (P : List Pr) (figs : Int) : Int := leftF P figs + (if 0 < plF P figs then plF P figs + 1 else 0)
noncomputable def sciW (P : List Pr) (figs : Int) : Int := mnF P + (if 1 < cntF P figs then cntF P figs + 1 else 1) + 4 + wdF P figs
noncomputable def isFix (P : List Pr) (figs : Int) : Bool := decide (fixW P figs ≤ sciW P figs)
noncomputable def formV (P : List Pr) (figs : Int) : Val := if isFix P figs = true then .tup [.str (Str.ofString "fixed"), .int (plF P figs)] else .tup [.str (Str.ofString "scientific"), .int (cntF P figs)]
noncomputable abbrev ChoI (P : List Pr) (figs : Int) (ρ : Rho) : Prop := (At ρ "digits" (.int figs)) ∧ (At ρ "count" (.int (cntF P figs))) ∧ (At ρ "left" (.int (leftF P figs))) ∧ (At ρ "places" (.int (plF P figs))) ∧ (At ρ "wide" (.int (wdF P figs))) ∧ (At ρ "minus" (.int (mnF P)))
theorem wdF_snoc {P : List Pr} {q : Pr} {figs : Int} : wdF (P ++ [q]) figs = if 100 ≤ bab (figE q.1 q.2 figs) then mx (wdF P figs) (wdM q.1 q.2 figs) else wdF P figs := by
  unfold wdF
  rw [List.filter_append]
  by_cases h : 100 ≤ bab (figE q.1 q.2 figs)
  · rw [if_pos h]
    have : [q].filter (fun q => decide (99 < bab (figE q.1 q.2 figs))) = [q] := by
      rw [List.filter_cons, if_pos (decide_eq_true (by omega))]; rfl
    rw [this, snoc_map]
  · rw [if_neg h]
    have : [q].filter (fun q => decide (99 < bab (figE q.1 q.2 figs))) = [] := by
      rw [List.filter_cons, if_neg (by rw [decide_eq_false (by omega)]; decide)]; rfl
    rw [this, List.append_nil]
theorem mnF_snoc {P : List Pr} {q : Pr} : mnF (P ++ [q]) = if q.1 < 0 then 1 else mnF P := by
  unfold mnF
  rw [List.any_append]
  by_cases h : q.1 < 0
  · rw [if_pos h, List.any_cons, decide_eq_true h, Bool.true_or, Bool.or_true]; rfl
  · rw [if_neg h, List.any_cons, decide_eq_false h, List.any_nil, Bool.or_false, Bool.or_false]
theorem fn_chosen {P : List Pr} {figs : Int} (hP : POk P) (hf : 1 ≤ figs ∧ figs ≤ 20) : Fn w 5 98 D [.list (prs P), .int figs] σ (formV P figs) σ := by
  wtm_at "v_fill"
  refine Fn.intro (ps := ["xs", "digits"]) (by k_is) (by k_is) (us2 fun _ _ => by wtm_at "v_rfl") rfl (by decide) (fun L x hx => .inl (by revert x; decide)) rfl rfl rfl (fun L => ?_)
  wtm_at "v_asg"
  wtm_at "v_asg"
  wtm_at "v_asg"
  wtm_at "v_asg"
  wtm_at "v_asg"
  with_reducible refine' Ex.forL (xs := prs P) (fun i ρ' σ' => σ' = σ ∧ ChoI (P.take i) figs ρ') ?gxe ?gxh0 (fun i v ρ' σ' hv hJ => ?gxturn) (fun ρ' σ' hJ => ?gxdone) ?gxhx ?gxhs
  case gxe => wtm_at "v_ev"
  case gxhx => wtm_at "v_kd"
  case gxhs => intro _; wtm_at "v_rfl"
  case gxh0 => exact ⟨rfl, ⟨by wtm_at "v_at", by wtm_at "v_at", by wtm_at "v_at", by wtm_at "v_at", by wtm_at "v_at", by wtm_at "v_at"⟩⟩
  case gxturn =>
    obtain ⟨rfl, I⟩ := hJ
    obtain ⟨q, hq, rfl⟩ := prs_get hv
    have hqP := hP q (List.mem_of_getElem? hq)
    have hx1 : Fn w 4 91 D _ σ' _ σ' := fn_measures hqP hf
    obtain ⟨i1, i2, i3, i4, i5, i6⟩ := I
    have hE := figE_bound (figs := figs) hqP
    have hbd : Dig 480 (bab (figE q.1 q.2 figs)) := by
      unfold Dig bab
      refine Nat.lt_of_lt_of_le (m := 10 ^ 3) ?_ (Nat.pow_le_pow_right (by decide) (by decide))
      split <;> omega
    have hst := hbd.str
    have hsl : (dS (bab (figE q.1 q.2 figs))).length ≤ 480 := by
      rw [len_dS (bab_nonneg _)]; exact len10_dig (bab_nonneg _) hbd (by decide)
    have hsl2 : (dS (bab (figE q.1 q.2 figs))).length < 2 ^ 62 := by omega
    have hs : P.take (i + 1) = P.take i ++ [q] := take_snoc hq
    wtm_at "v_asg"
    wtm_at "v_asg"
    wtm_at "v_asg"
    wtm_at "v_asg"
    have c1 : mx (cntF (P.take i) figs) (cntI q.1 q.2 figs) = cntF (P.take (i + 1)) figs := by rw [hs]; exact snoc_map.symm
    have c2 : mx (leftF (P.take i) figs) (leftM q.1 q.2 figs) = leftF (P.take (i + 1)) figs := by rw [hs]; exact snoc_map.symm
    have c3 : mx (plF (P.take i) figs) (plM q.1 q.2 figs) = plF (P.take (i + 1)) figs := by rw [hs]; exact snoc_map.symm
    have c4 := wdF_snoc (P := P.take i) (q := q) (figs := figs)
    have c5 := mnF_snoc (P := P.take i) (q := q)
    rw [← hs] at c4 c5
    with_reducible refine' Ex.ifJ (fun ρ σ'' => σ'' = σ' ∧ At ρ "x" (pr q.1 q.2) ∧ At ρ "digits" (.int figs) ∧ At ρ "count" (.int (cntF (P.take (i + 1)) figs)) ∧ At ρ "left" (.int (leftF (P.take (i + 1)) figs)) ∧ At ρ "places" (.int (plF (P.take (i + 1)) figs)) ∧ At ρ "wide" (.int (wdF (P.take (i + 1)) figs)) ∧ At ρ "minus" (.int (mnF (P.take i)))) ?gxe (fun c => ?gxa) (fun c => ?gxb) ?gxr
    case gxe => wtm_at "v_tst"
    case gxa =>
      have c := of_decide_eq_true c
      rw [if_pos c] at c4
      wtm_at "v_asg"
      refine Ex.join ⟨rfl, by wtm_at "v_at", by wtm_at "v_at", by rw [← c1]; wtm_at "v_at", by rw [← c2]; wtm_at "v_at", by rw [← c3]; wtm_at "v_at", by rw [c4]; wtm_at "v_at", by wtm_at "v_at"⟩
    case gxb =>
      have c := of_decide_eq_false c
      rw [if_neg c] at c4
      refine Ex.join ⟨rfl, by wtm_at "v_at", by wtm_at "v_at", by rw [← c1]; wtm_at "v_at", by rw [← c2]; wtm_at "v_at", by rw [← c3]; wtm_at "v_at", by rw [c4]; wtm_at "v_at", by wtm_at "v_at"⟩
    case gxr =>
      rintro ρ' σ'' ⟨rfl, r0, r1, r2, r3, r4, r5, r6⟩
      with_reducible refine' Ex.ite ?gxe (fun c => ?gxa) (fun c => ?gxb)
      case gxe => wtm_at "v_tst"
      case gxa =>
        have c := of_decide_eq_true c
        rw [if_pos c] at c5
        wtm_at "v_asg"
        with_reducible refine' Ex.fin ?_
        with_reducible refine' Ex.loopEnd ?_
        exact ⟨rfl, ⟨by wtm_at "v_at", by wtm_at "v_at", by wtm_at "v_at", by wtm_at "v_at", by wtm_at "v_at", by rw [c5]; wtm_at "v_at"⟩⟩
      case gxb =>
        have c := of_decide_eq_false c
        rw [if_neg c] at c5
        with_reducible refine' Ex.fin ?_
        with_reducible refine' Ex.loopEnd ?_
        exact ⟨rfl, ⟨by wtm_at "v_at", by wtm_at "v_at", by wtm_at "v_at", by wtm_at "v_at", by wtm_at "v_at", by rw [c5]; wtm_at "v_at"⟩⟩
  case gxdone =>
    obtain ⟨rfl, I⟩ := hJ
    have e : P.take (prs P).length = P := by rw [List.length_map]; exact List.take_length
    rw [e] at I
    obtain ⟨i1, i2, i3, i4, i5, i6⟩ := I
    wtm_at "v_asg"
    wtm_at "v_asg"
    have hw : formV P figs = if decide (leftF P figs + (if decide (0 < plF P figs) = true then plF P figs + 1 else 0) ≤ mnF P + (if decide (1 < cntF P figs) = true then cntF P figs + 1 else 1) + 4 + wdF P figs) = true then .tup [.str (Str.ofString "fixed"), .int (plF P figs)] else .tup [.str (Str.ofString "scientific"), .int (cntF P figs)] := by
      unfold formV isFix fixW sciW
      simp only [lt_iff]
    with_reducible refine' Ex.ite ?gxe (fun c => ?gxa) (fun c => ?gxb)
    case gxe => wtm_at "v_tst"
    case gxa =>
      wtm_at "v_ret"
      rw [hw, if_pos c]
    case gxb =>
      with_reducible refine' Ex.fin ?_
      wtm_at "v_ret"
      rw [hw, if_neg (by rw [c]; decide)]
end

section
open PySem PySem.Spec PySem.Calls PySem.W PyProof.Rows
variable {w : World} {k : Nat} {D : Dm} {σ : List Val}
noncomputable def fV (b : Bool) (n : Int) : Val := .tup [.str (if b = true then Str.ofString "fixed" else Str.ofString "scientific"), .int n]
noncomputable def fN (P : List Pr) (figs : Int) : Int := if isFix P figs = true then plF P figs else cntF P figs
theorem formV_eq (P : List Pr) (figs : Int) : formV P figs = fV (isFix P figs) (fN P figs) := by
  unfold formV fV fN
  split <;> rfl
noncomputable def showT (b : Bool) (n : Int) : Px → Str
  | .none => spT .none
  | some (x, d) => if 0 < d then (if b = true then fixT x d n else sciT x d n) else spT (some (x, d))
noncomputable def FOk (b : Bool) (n : Int) : Prop := if b = true then 0 ≤ n ∧ n ≤ 200 else 1 ≤ n ∧ n ≤ 20
theorem fn_formed {ex : List Addr} {p : Px} {b : Bool} {n : Int} (hp : p.Ok) (hb : FOk b n) : Fn w 5 105 ⟨.none, ex⟩ [p.val, fV b n] [] (.str (showT b n p)) [] := by
  have hx1 : Fn w 1 42 ⟨.none, ex⟩ [p.val] [] (spV p) [] := fn_special hp
  wtm_at "v_fill"
  refine Fn.intro (ps := ["x", "form"]) (by k_is) (by k_is) (us2 fun _ _ => by wtm_at "v_rfl") rfl (by decide) (fun L x hx => .inl (by revert x; decide)) rfl rfl rfl (fun L => ?_)
  wtm_at "v_asg"
  with_reducible refine' Ex.ite ?gxe (fun c => ?gxa) (fun c => ?gxb)
  case gxe => wtm_at "v_tst"
  case gxa =>
    have hn : p.num = false := by
      cases h : p.num with
      | false => rfl
      | true => unfold spV at c; rw [h] at c; exact Bool.noConfusion c
    have hv : spV p = .str (spT p) := by unfold spV; rw [hn]; rfl
    wtm_at "v_ret"
    rw [hv]
    unfold showT
    cases p with
    | none => rfl
    | some p =>
      obtain ⟨x, d⟩ := p
      have : ¬ 0 < d := of_decide_eq_false hn
      dsimp only
      rw [if_neg this]
  case gxb =>
    have hn : p.num = true := by
      cases h : p.num with
      | true => rfl
      | false => unfold spV at c; rw [h] at c; exact Bool.noConfusion c
    cases p with
    | none => cases hn
    | some p =>
      obtain ⟨x, d⟩ := p
      have hd : 0 < d := of_decide_eq_true hn
      have hq : PairOk x d := hp.elim id fun q => absurd q.1 (by omega)
      have hs : showT b n (some (x, d)) = (if b = true then fixT x d n else sciT x d n) := by
        show (if 0 < d then (if b = true then fixT x d n else sciT x d n) else spT (some (x, d))) = _
        rw [if_pos hd]
      rw [hs]
      have hfs : (Str.ofString "fixed" = Str.ofString "fixed") = True := by simp
      have hff : decide (Str.ofString "scientific" = Str.ofString "fixed") = false := by decide +kernel
      with_reducible refine' Ex.fin ?_
      cases b with
      | true =>
        have hf : Fn w 2 84 ⟨.none, ex⟩ _ [] _ [] := fn_fixed hq hb
        with_reducible refine' Ex.ite ?gxe (fun c => ?gxa) (fun c => ?gxb)
        case gxe => wtm_at "v_tst"
        case gxa => wtm_at "v_ret"; rfl
        case gxb =>
          rw [if_pos rfl, decide_eq_true rfl] at c
          cases c
      | false =>
        have hf : Fn w 4 77 ⟨.none, ex⟩ _ [] _ [] := fn_scientific hq hb
        with_reducible refine' Ex.ite ?gxe (fun c => ?gxa) (fun c => ?gxb)
        case gxe => wtm_at "v_tst"
        case gxa =>
          rw [if_neg (by decide), hff] at c
          cases c
        case gxb =>
          with_reducible refine' Ex.fin ?_
          wtm_at "v_ret"
          rfl
end

section
open PySem PySem.Spec PySem.Calls PySem.W PyProof.Rows
variable {w : World} {k : Nat} {D : Dm} {σ : List Val}
noncomputable def numP : List Px → List Pr
  | [] => []
  | some (x, d) :: r => if 0 < d then (x, d) :: numP r else numP r
  | .none :: r => numP r
noncomputable abbrev pxs (X : List Px) : List Val := X.map Px.val
noncomputable abbrev XOk (X : List Px) : Prop := ∀ p ∈ X, p.Ok
theorem numP_ok {X : List Px} (h : XOk X) : POk (numP X) := by
  induction X with
  | nil => intro q hq; cases hq
  | cons p r ih =>
    have ih := ih fun p hp => h p (.tail _ hp)
    cases p with
    | none => exact ih
    | some p =>
      obtain ⟨x, d⟩ := p
      intro q hq
      unfold numP at hq
      split at hq
      · rename_i hd
        rcases List.mem_cons.mp hq with e | e
        · subst e
          exact (h _ (.head _)).elim id fun q => absurd q.1 (by omega)
        · exact ih q e
      · exact ih q hq
theorem fN_ok {P : List Pr} {figs : Int} (hP : POk P) (hf : 1 ≤ figs ∧ figs ≤ 20) : FOk (isFix P figs) (fN P figs) := by
  unfold FOk fN
  split
  · unfold plF
    exact mxl_bound (by lia) fun b hb => by
      obtain ⟨q, hq, rfl⟩ := List.mem_map.mp hb
      exact (plM_bound (hP q hq) hf).2
  · unfold cntF
    exact mxl_bound (by lia) fun b hb => by
      obtain ⟨q, hq, rfl⟩ := List.mem_map.mp hb
      exact (cntI_bound (hP q hq) hf).2
noncomputable def comT (X : List Px) (figs : Int) : List Str := X.map (showT (isFix (numP X) figs) (fN (numP X) figs))
theorem map_len {α β : Type} {f : α → β} {l : List α} {n : Nat} (h : l.length ≤ n) : (l.map f).length ≤ n := by rw [List.length_map]; exact h
theorem Ifs.of {env : Env} {ρ : Rho} {σ' : List Val} {c : Expr} {b b' : Bool} (h : Tst w k env D ρ σ c b σ') (e : b = b') : Ifs w k env D ρ σ [c] b' σ' := e ▸ Ifs.one h
theorem fn_common {ex : List Addr} {X : List Px} {figs : Int} (hX : XOk X) (hz : X.length ≤ 1000) (hf : 1 ≤ figs ∧ figs ≤ 20) : Fn w 6 110 ⟨.none, ex⟩ [.list (pxs X), .int figs] [] (.list ((comT X figs).map Val.str)) [] := by
  have hP := numP_ok hX
  have hx1 : Fn w 5 98 ⟨.none, ex⟩ [.list (prs (numP X)), .int figs] [] _ [] := fn_chosen hP hf
  rw [formV_eq] at hx1
  have hfo := fN_ok hP hf
  wtm_at "v_fill"
  refine Fn.intro (ps := ["xs", "digits"]) (by k_is) (by k_is) (us2 fun _ _ => by wtm_at "v_rfl") rfl (by decide) (fun L x hx => .inl (by revert x; decide)) rfl rfl rfl (fun L => ?_)
  refine Ex.assignComp (xs := pxs X) (ys := prs (numP X)) (ρf := []) (cl := []) (σ₁ := []) (σ₂ := []) (Source.list ?gxe) ?gxok CompSee.nil ?gxhz (fun C a => ?gxrun) ?_ ?gxhx ?gxhsw
  case gxe => wtm_at "v_ev"
  case gxhx => wtm_at "v_kd"
  case gxhsw => wtm_at "v_rfl"
  case gxhz => exact map_len (Nat.le_trans hz (by decide))
  case gxok => exact ⟨by with_unfolding_all decide, by wtm_at "v_rfl", by with_unfolding_all decide, by wtm_at "v_rfl", (fun x c e => by cases e), (fun C y hy => by rw [List.mem_singleton.mp hy]; wtm_at "v_rfl"), fun _ => by wtm_at "v_rfl"⟩
  case gxrun =>
    clear hx1 hP hfo hz
    revert hX
    induction X with
    | nil => intro _; exact .nil
    | cons p r ih =>
      intro hX
      have ih := ih fun p hp => hX p (.tail _ hp)
      cases p with
      | none =>
        refine' .skip .name (.of (b := false) ?gxt rfl) ih
        case gxt =>
          refine Tst.bop (Alls.andF ?gxq)
          case gxq =>
            show Tst w _ _ _ _ _ _ (!Val.isNone (Px.val .none)) _
            wtm_at "v_tst"
      | some p =>
        obtain ⟨x, d⟩ := p
        by_cases hd : 0 < d
        · have e : prs (numP (some (x, d) :: r)) = pr x d :: prs (numP r) := by
            rw [numP, if_pos hd]; rfl
          rw [e]
          refine' .take .name (.of (b := !(Val.isNone (Px.val (some (x, d)))) && decide (0 < d)) ?gxt2 ?gxe2) ?gxev2 ih
          case gxt2 => wtm_at "v_tst"
          case gxe2 => rw [decide_eq_true hd]; rfl
          case gxev2 => wtm_at "v_ev"
        · have e : prs (numP (some (x, d) :: r)) = prs (numP r) := by
            rw [numP, if_neg hd]
          rw [e]
          refine' .skip .name (.of (b := !(Val.isNone (Px.val (some (x, d)))) && decide (0 < d)) ?gxt3 ?gxe3) ih
          case gxt3 => wtm_at "v_tst"
          case gxe3 => rw [decide_eq_false hd, Bool.and_false]
  wtm_at "v_asg"
  unfold comT
  generalize isFix (numP X) figs = b at *
  generalize fN (numP X) figs = n at *
  with_reducible refine' Ex.retR ?gxev rfl rfl
  case gxev =>
    refine' Ev.comp (xs := pxs X) (ρf := [(Str.ofString "form", fV b n)]) (cl := [(Str.ofString "form", L + 1)]) (Source.list ?gxe4) ?gxok4 (CompSee.cons CompSee.nil ?gxs1 ?gxs2 ?gxs3 ?gxs4) ?gxhz4 (fun C a => ?gxrun4)
    case gxe4 => wtm_at "v_ev"
    case gxs1 => wtm_at "v_rfl"
    case gxs2 => wtm_at "v_rfl"
    case gxs3 => intro C; wtm_at "v_rfl"
    case gxs4 => wtm_at "v_rfl"
    case gxhz4 => exact map_len (Nat.le_trans hz (by decide))
    case gxok4 => exact ⟨by with_unfolding_all decide, by wtm_at "v_rfl", by with_unfolding_all decide, by wtm_at "v_rfl", (fun x c e => e), (fun C y hy => by rw [List.mem_singleton.mp hy]; wtm_at "v_rfl"), fun _ => by wtm_at "v_rfl"⟩
    case gxrun4 =>
      clear hx1 hP hz
      revert hX
      induction X with
      | nil => intro _; exact .nil
      | cons p r ih =>
        intro hX
        have ih := ih fun p hp => hX p (.tail _ hp)
        have hf1 : Fn w 5 105 ⟨.none, a :: ex⟩ [p.val, fV b n] [] (.str (showT b n p)) [] := fn_formed (hX p (.head _)) hfo
        refine' .take .name .nil ?gxev5 ih
        case gxev5 => wtm_at "v_ev"
end

section
open PySem PySem.Spec PySem.Calls PySem.W PyProof.Rows
variable {w : World} {k : Nat} {D : Dm} {σ : List Val}
end

local macro_rules | `(tactic| wtm_at "v_ev") => `(tactic| with_reducible first | (refine' Ev.itemL ?gxe1 ?gxe2 ?gxe3 ?gxe4 ?gxe5 ?gxe6; (case gxe1 => wtm_at "v_ev"); (case gxe2 => wtm_at "v_ev"); (case gxe4 => wtm_at "v_get"); (case gxe3 => wtm_at "v_side"); (case gxe5 => first | wtm_at "v_len" | wtm_at "v_side"); (case gxe6 => (intro _ _; wtm_at "v_rfl"))) | fail "no itemL")

section
open PySem PySem.Spec PySem.Calls PySem.W PyProof.Rows
variable {w : World} {k : Nat} {D : Dm} {σ : List Val}
theorem Tst.of {env : Env} {ρ : Rho} {σ' : List Val} {c : Expr} {b b' : Bool} (h : Tst w k env D ρ σ c b σ') (e : b = b') : Tst w k env D ρ σ c b' σ' := e ▸ h
theorem Ev.of {env : Env} {ρ : Rho} {σ' : List Val} {c : Expr} {b b' : Val} (h : Ev w k env D ρ σ c b σ') (e : b = b') : Ev w k env D ρ σ c b' σ' := e ▸ h
noncomputable def numT (p : Px) (figs : Int) : Str := showT (isFix (numP [p]) figs) (fN (numP [p]) figs) p
theorem fn_number {ex : List Addr} {p : Px} {figs : Int} (hX : p.Ok) (hf : 1 ≤ figs ∧ figs ≤ 20) : Fn w 7 118 ⟨.none, ex⟩ [p.val, .int figs] [] (.str (numT p figs)) [] := by
  have hx1 : Fn w 6 110 ⟨.none, ex⟩ [.list [p.val], .int figs] [] (.list [.str (numT p figs)]) [] := fn_common (X := [p]) (fun q hq => by rw [List.mem_singleton.mp hq]; exact hX) (Nat.le_add_left 1 999) hf
  wtm_at "v_fill"
  refine Fn.introD (ps := ["x", "digits"]) (by k_is) (by k_is) (fun s us hl X => us2 (P := fun us => BindsTo s _ ⟨us, []⟩ (List.zip _ us)) (fun _ _ => binds_K X rfl (by k_is) rfl rfl rfl) us hl) rfl (by decide) (fun L x hx => .inl (by revert x; decide)) rfl rfl rfl (fun L => ?_)
  wtm_at "v_ret"
  rfl
theorem fn_lspecial {p : Px} (hX : p.Ok) (hn : p.num = false) : Fn w 1 181 D [p.val] σ (.str (spT p)) σ := by
  wtm_at "v_fill"
  refine Fn.intro (ps := ["pair"]) (by k_is) (by k_is) (us1 fun _ => by wtm_at "v_rfl") rfl (by decide) (fun L x hx => .inl (by revert x; decide)) rfl rfl rfl (fun L => ?_)
  with_reducible refine' Ex.retR ?gxev rfl rfl
  case gxev =>
    cases p with
    | none =>
      refine' Ev.ifT (Tst.of (b := Val.isNone (Px.val .none)) ?gxt1 rfl) (Ev.of ?gxa1 ?gxb1)
      case gxt1 => wtm_at "v_tst"
      case gxa1 => wtm_at "v_ev"
      case gxb1 => rfl
    | some p =>
      obtain ⟨x, d⟩ := p
      have hd : ¬ 0 < d := of_decide_eq_false hn
      refine' Ev.ifF (Tst.of (b := Val.isNone (Px.val (some (x, d)))) ?gxt2 rfl) ?gxa2
      case gxt2 => wtm_at "v_tst"
      case gxa2 =>
        rcases hX with h | ⟨_, h | h | h⟩
        · exact absurd h.d0 hd
        · subst h
          refine' Ev.of ?gxa3 ?gxb3
          case gxa3 => wtm_at "v_ev"
          case gxb3 => rfl
        · subst h
          refine' Ev.of ?gxa4 ?gxb4
          case gxa4 => wtm_at "v_ev"
          case gxb4 => rfl
        · subst h
          refine' Ev.of (Ev.itemN ?gxe1 ?gxe2 ?gxe3 ?gxe4 ?gxe5 ?gxe6 ?gxe7) ?gxb5
          case gxe1 => wtm_at "v_ev"
          case gxe2 => wtm_at "v_ev"
          case gxe3 => decide
          case gxe4 => decide
          case gxe5 => rfl
          case gxe6 => wtm_at "v_len"
          case gxe7 => intro _ _; wtm_at "v_rfl"
          case gxb5 => rfl
end

section
open PySem PySem.Spec PySem.Calls PySem.W PyProof PyProof.Rows PySem.SeqAt
section
variable {w : World} {k : Nat} {B : Heap} {env : Env} {D : Dm} {ρ ρf : Rho} {σ σ₁ σ₂ σ₃ : List Val}
mutual
noncomputable def Val.dat : Val → PyData
  | .none => .none
  | .bool b => .bool b
  | .int i => .int i
  | .str s => .str s
  | .tup xs => .tuple (dats xs)
  | .list xs => .list (dats xs)
  | .cell => .none
noncomputable def dats : List Val → List PyData
  | [] => []
  | x :: xs => x.dat :: dats xs
end
mutual
theorem Rep.reads {h : Heap} : ∀ {v : Val} {u : Value}, v.nc = true → Rep D h v u → ∃ as, Reads h u v.dat as
  | .none, _, _, r => by cases r; exact ⟨_, .none⟩
  | .bool b, _, _, r => by cases r; exact ⟨_, .bool b⟩
  | .int i, _, _, ⟨t, e⟩ => by subst e; exact ⟨_, .int i t⟩
  | .str x, _, _, ⟨t, e⟩ => by subst e; exact ⟨_, .str x t⟩
  | .cell, _, h, _ => by cases h
  | .tup xs, _, hn, ⟨a, us, e, n, ⟨o, ho, hc, m, hd⟩, r⟩ => by
    subst e
    obtain ⟨as, q⟩ := RepL.reads (by simpa [Val.nc] using hn) r
    exact ⟨as, .tuple ho hc hd (by simpa using q)⟩
  | .list xs, _, hn, ⟨a, us, e, n, ⟨o, ho, hc, m, hd⟩, r⟩ => by
    subst e
    obtain ⟨as, q⟩ := RepL.reads (by simpa [Val.nc] using hn) r
    exact ⟨a :: as, .list ho hc hd (by simpa using q)⟩
theorem RepL.reads {h : Heap} : ∀ {vs : List Val} {us : List Value}, ncs vs = true → RepL D h vs us → ∃ as, ReadsAll h us (dats vs) as
  | [], _, _, r => by cases r; exact ⟨_, .nil⟩
  | v :: vs, _, hn, ⟨u, r, e, h1, h2⟩ => by
    subst e
    simp only [ncs, Bool.and_eq_true] at hn
    obtain ⟨as, q⟩ := h1.reads hn.1
    obtain ⟨bs, q'⟩ := RepL.reads hn.2 h2
    exact ⟨as ++ bs, .cons q q'⟩
end
mutual
/-- a thing equals itself -/
noncomputable def Val.eqb : Val → Bool
  | .none => true
  | .bool _ => true
  | .int _ => true
  | .str x => x.cps.all (· < 0x110000)
  | .tup xs => eqbs xs
  | .list xs => eqbs xs
  | .cell => false
noncomputable def eqbs : List Val → Bool
  | [] => true
  | x :: xs => x.eqb && eqbs xs
end
mutual
theorem eqb_nc : ∀ {v : Val}, v.eqb = true → v.nc = true
  | .none, _ => rfl
  | .bool _, _ => rfl
  | .int _, _ => rfl
  | .str _, _ => rfl
  | .cell, h => by cases h
  | .tup xs, h => by simp only [Val.nc]; exact eqbs_nc (by simpa [Val.eqb] using h)
  | .list xs, h => by simp only [Val.nc]; exact eqbs_nc (by simpa [Val.eqb] using h)
theorem eqbs_nc : ∀ {vs : List Val}, eqbs vs = true → ncs vs = true
  | [], _ => rfl
  | v :: vs, h => by
    simp only [eqbs, Bool.and_eq_true] at h
    simp only [ncs, Bool.and_eq_true]
    exact ⟨eqb_nc h.1, eqbs_nc h.2⟩
end
mutual
theorem eqb_lay : ∀ {v : Val}, v.eqb = true → v.dat.canLay0 = true
  | .none, _ => rfl
  | .bool _, _ => rfl
  | .int _, _ => rfl
  | .str x, h => by simpa [Val.eqb, Val.dat, PyData.canLay0, PyData.strOk] using h
  | .cell, h => by cases h
  | .tup xs, h => by simp only [Val.dat, PyData.canLay0]; exact eqbs_lay (by simpa [Val.eqb] using h)
  | .list xs, h => by simp only [Val.dat, PyData.canLay0]; exact eqbs_lay (by simpa [Val.eqb] using h)
theorem eqbs_lay : ∀ {vs : List Val}, eqbs vs = true → PyData.canLayAll0 (dats vs) = true
  | [], _ => by simp [dats, PyData.canLayAll0]
  | v :: vs, h => by
    simp only [eqbs, Bool.and_eq_true] at h
    simp only [dats, PyData.canLayAll0, Bool.and_eq_true]
    exact ⟨eqb_lay h.1, eqbs_lay h.2⟩
end
mutual
theorem eqb_mix : ∀ {v : Val}, noMix v.dat v.dat = true
  | .none => by simp [Val.dat, noMix]
  | .bool _ => by simp [Val.dat, noMix]
  | .int _ => by simp [Val.dat, noMix]
  | .str x => by simp [Val.dat, noMix]
  | .cell => by simp [Val.dat, noMix]
  | .tup xs => by simp only [Val.dat, noMix]; exact eqbs_mix
  | .list xs => by simp only [Val.dat, noMix]; exact eqbs_mix
theorem eqbs_mix : ∀ {vs : List Val}, noMixAll (dats vs) (dats vs) = true
  | [] => by simp [dats, noMixAll]
  | v :: vs => by simp only [dats, noMixAll, Bool.and_eq_true]; exact ⟨eqb_mix, eqbs_mix⟩
end
mutual
theorem eqb_same : ∀ {v : Val}, PySem.Spec.same v.dat v.dat = true
  | .none => by simp [Val.dat, PySem.Spec.same]
  | .bool _ => by simp [Val.dat, PySem.Spec.same]
  | .int _ => by simp [Val.dat, PySem.Spec.same]
  | .str x => by simp [Val.dat, PySem.Spec.same]
  | .cell => by simp [Val.dat, PySem.Spec.same]
  | .tup xs => by simp only [Val.dat, PySem.Spec.same]; exact eqbs_same
  | .list xs => by simp only [Val.dat, PySem.Spec.same]; exact eqbs_same
theorem eqbs_same : ∀ {vs : List Val}, PySem.Spec.sameAll (dats vs) (dats vs) = true
  | [] => by simp [dats, PySem.Spec.sameAll]
  | v :: vs => by simp only [dats, PySem.Spec.sameAll, Bool.and_eq_true]; exact ⟨eqb_same, eqbs_same⟩
end
theorem shaped_of {v : Val} (h : v.eqb = true) (hd : v.dat.depth ≤ 64) : shaped v.dat = true := by
  unfold shaped
  rw [Bool.and_eq_true]
  exact ⟨eqb_lay h, decide_eq_true hd⟩
/-- comparisons that want room -/
noncomputable def Cmp1 (w : World) (op : CmpOp) (D : Dm) (a b : Val) (c : Bool) : Prop :=
  ∀ (A : Around) (E : Value → Shared → Prop) (s : Shared) (x y : Value), AOk 1 A → Rep D s.heap a x → Rep D s.heap b y →
    wpAny (model PGm w) A (compareOp op x y) (fun u s' => Step .none s s' ∧ u = .bool c) E s
theorem Cmp1.eq {a : Val} (h : a.eqb = true) (hd : a.dat.depth ≤ 64) : Cmp1 w .Eq D a a true := fun A E s x y hA r q => by
  obtain ⟨as, ra⟩ := r.reads (eqb_nc h)
  obtain ⟨bs, rb⟩ := q.reads (eqb_nc h)
  refine eq_dataH_same ra rb (shaped_of h hd) (shaped_of h hd) (by have := hA.2.2; lia) eqb_mix ?_
  exact ⟨.refl, by rw [eqb_same]⟩
theorem Cmp1.ne {a : Val} (h : a.eqb = true) (hd : a.dat.depth ≤ 64) : Cmp1 w .NotEq D a a false := fun A E s x y hA r q => by
  obtain ⟨as, ra⟩ := r.reads (eqb_nc h)
  obtain ⟨bs, rb⟩ := q.reads (eqb_nc h)
  refine ne_dataH_same ra rb (shaped_of h hd) (shaped_of h hd) (by have := hA.2.2; omega) eqb_mix ?_
  exact ⟨.refl, by rw [eqb_same]; rfl⟩
/-- a list against the empty one -/
theorem Cmp1.neNil {xs : List Val} (h : eqbs xs = true) (hd : (Val.list xs).dat.depth ≤ 64) : Cmp1 w .NotEq D (.list xs) (.list []) (!xs.isEmpty) := fun A E s x y hA r q => by
  have h1 : (Val.list xs).eqb = true := by simpa [Val.eqb] using h
  obtain ⟨as, ra⟩ := r.reads (eqb_nc h1)
  obtain ⟨bs, rb⟩ := q.reads (v := .list []) rfl
  refine ne_dataH_same ra rb (shaped_of h1 hd) (by decide) (by have := hA.2.2; lia) ?_ ?_
  · cases xs <;> simp [Val.dat, dats, noMix, noMixAll]
  · refine ⟨.refl, ?_⟩
    cases xs <;> simp [Val.dat, dats, PySem.Spec.same, PySem.Spec.sameAll]
theorem Tst.cmp1 {l r : Expr} {op : CmpOp} {pos : Pos} {a b : Val} {c : Bool} (hl : Ev w k env D ρ σ l a σ₁) (hr : Ev w k env D ρ σ₁ r b σ₂) (ho : Cmp1 w op D a b c) (hk : 1 ≤ k) (hm : behindInMarks op r = false) :
    Tst w k env D ρ σ (.Compare l [op] [r] pos) c σ₂ := by
  intro A E s B hA S
  refine wpAny_isTrue_Compare1 (seq hl hA S fun x s₁ p₁ r₁ S₁ => seq hr hA S₁ fun y s₂ p₂ r₂ S₂ => ?_) hm
  refine wpAny_mono (ho A E s₂ x y (hA.mono hk) (r₁.kept p₂.heap) r₂) (fun u s₃ ⟨p₃, e⟩ => ?_) fun _ _ e => e
  subst e
  exact wpAny_truthy_bool ⟨rfl, p₁.trans (p₂.trans p₃.of_none), (S₂.store).kept p₃.heap.all⟩
theorem Ev.cmp1 {l r : Expr} {op : CmpOp} {pos : Pos} {a b : Val} {c : Bool} (hl : Ev w k env D ρ σ l a σ₁) (hr : Ev w k env D ρ σ₁ r b σ₂) (ho : Cmp1 w op D a b c) (hk : 1 ≤ k) (hm : behindInMarks op r = false) :
    Ev w k env D ρ σ (.Compare l [op] [r] pos) (.bool c) σ₂ := by
  intro A E s B hA S
  refine wpAny_Compare1 (seq hl hA S fun x s₁ p₁ r₁ S₁ => seq hr hA S₁ fun y s₂ p₂ r₂ S₂ => ?_) hm
  exact wpAny_mono (ho A E s₂ x y (hA.mono hk) (r₁.kept p₂.heap) r₂) (fun u s₃ ⟨p₃, e⟩ => ⟨p₁.trans (p₂.trans p₃.of_none), e, (S₂.store).kept p₃.heap.all⟩) fun _ _ e => e
theorem dats_strs : ∀ {xs : List Str}, PyData.depthAll (dats (xs.map .str)) ≤ 1
  | [] => by simp [dats, PyData.depthAll]
  | x :: xs => by
    have := dats_strs (xs := xs)
    simp only [List.map_cons, dats, PyData.depthAll, Val.dat, PyData.depth]
    lia
theorem dats_prs : ∀ {P : List Pr}, PyData.depthAll (dats (prs P)) ≤ 2
  | [] => by simp [dats, PyData.depthAll]
  | x :: xs => by
    have := dats_prs (P := xs)
    simp only [prs, List.map_cons, dats, PyData.depthAll, Val.dat, PyData.depth] at this ⊢
    lia
theorem eqbs_prs : ∀ {P : List Pr}, eqbs (prs P) = true
  | [] => rfl
  | x :: xs => by
    have := eqbs_prs (P := xs)
    simp only [prs, List.map_cons, eqbs, Val.eqb, Bool.and_eq_true] at this ⊢
    exact ⟨by decide, this⟩
end
end

section
open PySem PySem.Spec PySem.Calls PySem.W PyProof PyProof.Rows PySem.SeqAt
section
variable {w : World} {k : Nat} {B : Heap} {env : Env} {D : Dm} {ρ ρf : Rho} {σ σ₁ σ₂ σ₃ : List Val}
theorem sub_nil {cells : List (Str × Addr)} : ∀ x c, List.lookup x ([] : List (Str × Addr)) = some c → cells.lookup x = some c := fun _ _ e => by cases e
theorem sub_cons {cells cl : List (Str × Addr)} {y : Str} {a : Addr} (h : ∀ x c, List.lookup x cl = some c → cells.lookup x = some c) (e : cells.lookup y = some a) : ∀ x c, List.lookup x ((y, a) :: cl) = some c → cells.lookup x = some c := fun x c q => by
  rw [List.lookup_cons] at q
  cases hx : x == y with
  | true => rw [hx] at q; cases q; rw [beq_iff_eq.mp hx]; exact e
  | false => rw [hx] at q; exact h x c q
theorem run_map {α : Type} {x : Str} {px : Pos} {elt : Expr} (g f : α → Val) : ∀ (l : List α), (∀ a ∈ l, Ev w k env D ([(x, g a)] ++ ρf) σ elt (f a) σ) → Run w k env D ρf (.Name x px) elt [] (l.map g) σ (l.map f) σ
  | [], _ => .nil
  | a :: l, h => .take .name .nil (h a (.head _)) (run_map g f l fun b hb => h b (.tail _ hb))
theorem run_if {α : Type} {x : Str} {px : Pos} {elt c : Expr} (g f : α → Val) (p : α → Bool) : ∀ (l : List α), (∀ a ∈ l, Tst w k env D ([(x, g a)] ++ ρf) σ c (p a) σ) → (∀ a ∈ l, p a = true → Ev w k env D ([(x, g a)] ++ ρf) σ elt (f a) σ) → Run w k env D ρf (.Name x px) elt [c] (l.map g) σ ((l.filter p).map f) σ
  | [], _, _ => .nil
  | a :: l, t, h => by
    have ih : Run w k env D ρf (.Name x px) elt [c] (l.map g) σ ((l.filter p).map f) σ := run_if g f p l (fun b hb => t b (.tail _ hb)) fun b hb => h b (.tail _ hb)
    have ta := t a (.head _)
    rw [List.filter_cons]
    cases hp : p a with
    | true => exact .take .name (.one (hp ▸ ta)) (h a (.head _) hp) ih
    | false => exact .skip .name (.one (hp ▸ ta)) ih
theorem run_pair {α : Type} {a b : Str} {pa pb tp : Pos} {kd : Nat} {elt : Expr} (ga gb f : α → Val) : ∀ (l : List α), (∀ q ∈ l, Ev w k env D ([(b, gb q), (a, ga q)] ++ ρf) σ elt (f q) σ) → Run w k env D ρf (.Tuple [.Name a pa, .Name b pb] kd tp) elt [] (l.map fun q => .tup [ga q, gb q]) σ (l.map f) σ
  | [], _ => .nil
  | q :: l, h => .take .pair .nil (h q (.head _)) (run_pair ga gb f l fun b hb => h b (.tail _ hb))
theorem run_pair_if {α : Type} {a b : Str} {pa pb tp : Pos} {kd : Nat} {elt c : Expr} (ga gb f : α → Val) (p : α → Bool) : ∀ (l : List α), (∀ q ∈ l, Tst w k env D ([(b, gb q), (a, ga q)] ++ ρf) σ c (p q) σ) → (∀ q ∈ l, p q = true → Ev w k env D ([(b, gb q), (a, ga q)] ++ ρf) σ elt (f q) σ) → Run w k env D ρf (.Tuple [.Name a pa, .Name b pb] kd tp) elt [c] (l.map fun q => .tup [ga q, gb q]) σ ((l.filter p).map f) σ
  | [], _, _ => .nil
  | q :: l, t, h => by
    have ih : Run w k env D ρf (.Tuple [.Name a pa, .Name b pb] kd tp) elt [c] (l.map fun q => .tup [ga q, gb q]) σ ((l.filter p).map f) σ := run_pair_if ga gb f p l (fun b hb => t b (.tail _ hb)) fun b hb => h b (.tail _ hb)
    have ta := t q (.head _)
    rw [List.filter_cons]
    cases hp : p q with
    | true => exact .take .pair (.one (hp ▸ ta)) (h q (.head _) hp) ih
    | false => exact .skip .pair (.one (hp ▸ ta)) ih
theorem range_map {α β : Type} (l : List α) (d : α) (F : α → β) : (List.range l.length).map (fun i => F (l.getD i d)) = l.map F := by
  apply List.ext_getElem
  · simp
  · intro i h1 h2
    have h3 : i < l.length := by simpa using h2
    simp [h3]
/-- max([a] + [..]) -/
theorem Ev.maxOf {x : Str} {np p1 p2 p3 pos : Pos} {kd : Nat} {a : Int} {l : List Int} {c : Expr} (hf : IsBi w x (.builtin "max")) (hc : Ev w k env D ρ σ c (.list (l.map .int)) σ₁) (hz : l.length ≤ 10000)
    (hx : env.kindOf x = some .globalImplicit) (he : ∀ e : Expr, ∀ l o r p, e = .BinOp l o r p → starEach [e] env = (false, eval e env) :: starEach [] env) (hi : starEach [.Constant (.int a) kd p1] env = (false, eval (.Constant (.int a) kd p1) env) :: starEach [] env)
    (hd : (x == ("__debug__" : Str)) = false) : Ev w k env D ρ σ (.Call (.Name x np) [.BinOp (.List [.Constant (.int a) kd p1] p2) .Add c p3] [] pos) (.int (l.foldl mx a)) σ₁ := by
  have hb : Ev w k env D ρ σ (.BinOp (.List [.Constant (.int a) kd p1] p2) .Add c p3) (.list ((a :: l).map .int)) σ₁ :=
    Ev.bin (Ev.list (vs := [.int a]) (Evs.cons Ev.int Evs.nil hi) (Nat.le_add_left 1 999)) hc (Bin.addL (xs := [.int a]) (by rw [List.length_map]; simp; lia))
  exact Ev.bif hf (Evs.cons hb Evs.nil (he _ _ _ _ _ rfl)) (Bif.maxL (mxl l a).1 (mxl l a).2) hx (he _ _ _ _ _ rfl) rfl hd
end
end

section
open PySem PySem.Spec PySem.Calls PySem.W PyProof PyProof.Rows PySem.SeqAt
variable {w : World} {k : Nat} {D : Dm} {σ : List Val}
theorem Tst.boolN {env : Env} {ρ : Rho} {σ₁ : List Val} {e : Expr} {b : Bool} (h : Ev w k env D ρ σ e (.bool b) σ₁) (he : ∀ whole, isTrue e env whole = (do let v ← whole; standAt e.pos; holding [v] (truthy v))) : Tst w k env D ρ σ e b σ₁ := fun A E s B hA S =>
  isTrue_plain (seq h hA S fun u s₁ p r S₁ => by cases r; exact wpAny_truthy_bool ⟨rfl, p, S₁.store⟩) (he _)
end

local macro_rules | `(tactic| wtm_at "v_tst") => `(tactic| with_reducible first | (refine' Tst.boolN ?gxe1 ?gxe2; (case gxe1 => wtm_at "v_ev"); (case gxe2 => (intro _; wtm_at "v_rfl"))) | fail "no bool")

section
open PySem PySem.Spec PySem.Calls PySem.W PyProof PyProof.Rows PySem.SeqAt
variable {w : World} {k : Nat} {D : Dm} {σ : List Val}
theorem plF_bound {P : List Pr} {figs : Int} (hP : POk P) (hf : 1 ≤ figs ∧ figs ≤ 20) : 0 ≤ plF P figs ∧ plF P figs ≤ 200 := by
  unfold plF
  exact mxl_bound (by lia) fun b hb => by
    obtain ⟨q, hq, rfl⟩ := List.mem_map.mp hb
    exact (plM_bound (hP q hq) hf).2
theorem cntF_bound {P : List Pr} {figs : Int} (hP : POk P) (hf : 1 ≤ figs ∧ figs ≤ 20) : 1 ≤ cntF P figs ∧ cntF P figs ≤ 20 := by
  unfold cntF
  exact mxl_bound (by lia) fun b hb => by
    obtain ⟨q, hq, rfl⟩ := List.mem_map.mp hb
    exact (cntI_bound (hP q hq) hf).2
noncomputable def plL (P : List Pr) (figs : Int) : List Int := P.map fun q => cntI q.1 q.2 figs - 1 - figE q.1 q.2 figs
noncomputable def frL (P : List Pr) (figs : Int) : List Int := P.map fun q => mx 0 (figE q.1 q.2 figs) + 1 + (if q.1 < 0 then 1 else 0)
theorem plL_eq {P : List Pr} {figs : Int} : ∀ a : Int, 0 ≤ a → (plL P figs).foldl mx a = (P.map fun q => plM q.1 q.2 figs).foldl mx a := by
  unfold plL
  induction P with
  | nil => intro a h; rfl
  | cons q r ih =>
    intro a h
    rw [List.map_cons, List.map_cons, List.foldl_cons, List.foldl_cons]
    have e : mx a (plM q.1 q.2 figs) = mx a (cntI q.1 q.2 figs - 1 - figE q.1 q.2 figs) := by
      unfold plM
      show mx a (mx (cntI q.1 q.2 figs - 1 - figE q.1 q.2 figs) 0) = _
      generalize cntI q.1 q.2 figs - 1 - figE q.1 q.2 figs = c
      unfold mx
      split <;> split <;> (try split) <;> lia
    rw [e]
    exact ih _ (by have := mx_ge a (cntI q.1 q.2 figs - 1 - figE q.1 q.2 figs); omega)
theorem frL_eq {P : List Pr} {figs : Int} : frL P figs = P.map fun q => leftM q.1 q.2 figs := by
  unfold frL
  apply List.map_congr_left
  intro q _
  unfold leftM
  have : mx 0 (figE q.1 q.2 figs) = mx (figE q.1 q.2 figs) 0 := by
    unfold mx
    split <;> split <;> lia
  rw [this]
theorem any_filter {P : List Pr} : (!(P.filter fun q => decide (q.1 < 0)).isEmpty) = P.any fun q => decide (q.1 < 0) := by
  induction P with
  | nil => rfl
  | cons q r ih =>
    rw [List.filter_cons, List.any_cons]
    by_cases h : q.1 < 0
    · rw [if_pos (decide_eq_true h), decide_eq_true h]; rfl
    · rw [if_neg (by rw [decide_eq_false h]; decide), decide_eq_false h, ih]; rfl
theorem numP_filter {X : List Px} : prs (numP X) = (X.filter Px.num).map Px.val := by
  induction X with
  | nil => rfl
  | cons p r ih =>
    cases p with
    | none => exact ih
    | some p =>
      obtain ⟨x, d⟩ := p
      rw [List.filter_cons]
      by_cases h : 0 < d
      · rw [numP, if_pos h, if_pos (show Px.num (some (x, d)) = true from decide_eq_true h), List.map_cons, ← ih]; rfl
      · rw [numP, if_neg h, if_neg (show ¬ Px.num (some (x, d)) = true from by rw [show Px.num (some (x, d)) = decide (0 < d) from rfl, decide_eq_false h]; decide), ← ih]
theorem numP_len {X : List Px} : (numP X).length ≤ X.length := by
  have h := congrArg List.length (numP_filter (X := X))
  rw [List.length_map, List.length_map] at h
  rw [h]
  exact List.length_filter_le _ _
end

section
open PySem PySem.Spec PySem.Calls PySem.W PyProof PyProof.Rows PySem.SeqAt
variable {w : World} {k : Nat} {D : Dm} {σ : List Val}
noncomputable abbrev shV (P : List Pr) (figs : Int) : List Val := P.map fun q => .tup [.str (figT q.1 q.2 figs), .int (figE q.1 q.2 figs)]
theorem fn_ltexts {ex : List Addr} {X : List Px} {figs : Int} (hX : XOk X) (hz : X.length ≤ 1000) (hf : 1 ≤ figs ∧ figs ≤ 20) : Fn w 5 186 ⟨.none, ex⟩ [.list (pxs X), .int figs] [] (.list ((comT X figs).map Val.str)) [] := by
  have hP := numP_ok hX
  have hPl : (numP X).length ≤ 1000 := Nat.le_trans numP_len hz
  have hpl := plF_bound hP hf
  have hct := cntF_bound hP hf
  have hcom : comT X figs = X.map (showT (isFix (numP X) figs) (fN (numP X) figs)) := rfl
  rw [hcom]
  wtm_at "v_fill"
  refine Fn.intro (ps := ["pairs", "digits"]) (by k_is) (by k_is) (us2 fun _ _ => by wtm_at "v_rfl") rfl (by decide) (fun L x hx => by
    rcases List.mem_cons.mp hx with e | hx
    · rw [e]; exact .inl (by wtm_at "v_rfl")
    · rw [List.mem_singleton.mp hx]; exact .inr ⟨by wtm_at "v_rfl", by wtm_at "v_rfl"⟩) rfl rfl rfl (fun L => ?_)
  -- simple
  with_reducible refine' Ex.assign (Ev.comp (xs := pxs X) (ys := prs (numP X)) (ρf := []) (cl := []) (σ₁ := []) (σ₂ := []) (Source.list ?gxe1) ?gxok1 CompSee.nil ?gxhz1 (fun C a => ?gxrun1)) ?_ ?gxhx1 ?gxhsw1
  case gxe1 => wtm_at "v_ev"
  case gxhx1 => wtm_at "v_kd"
  case gxhsw1 => wtm_at "v_rfl"
  case gxhz1 => exact map_len (Nat.le_trans hz (by decide))
  case gxok1 => exact ⟨by with_unfolding_all decide, by wtm_at "v_rfl", by with_unfolding_all decide, by wtm_at "v_rfl", sub_nil, (fun C y hy => by rw [List.mem_singleton.mp hy]; wtm_at "v_rfl"), fun _ => by wtm_at "v_rfl"⟩
  case gxrun1 =>
    rw [numP_filter]
    refine run_if Px.val Px.val Px.num X (fun p hp => ?gxt) (fun p hp hn => ?gxel)
    case gxel => wtm_at "v_ev"
    case gxt =>
      cases p with
      | none =>
        refine Tst.bop (Alls.andF ?gxq)
        case gxq =>
          show Tst w _ _ _ _ _ _ (!Val.isNone (Px.val .none)) _
          wtm_at "v_tst"
      | some p =>
        obtain ⟨x, d⟩ := p
        refine' Tst.of (b := !(Val.isNone (Px.val (some (x, d)))) && decide (0 < d)) ?gxt2 ?gxe2
        case gxt2 => wtm_at "v_tst"
        case gxe2 => rfl
  -- shapes
  generalize hQ : numP X = P at *
  with_reducible refine' Ex.assign (Ev.comp (xs := prs P) (ys := shV P figs) (ρf := [(Str.ofString "digits", .int figs)]) (cl := [(Str.ofString "digits", L + 1)]) (σ₁ := []) (σ₂ := []) (Source.list ?gxe1) ?gxok1 (CompSee.cons CompSee.nil ?gxs1 ?gxs2 ?gxs3 ?gxs4) ?gxhz1 (fun C a => ?gxrun1)) ?_ ?gxhx1 ?gxhsw1
  case gxe1 => wtm_at "v_ev"
  case gxhx1 => wtm_at "v_kd"
  case gxhsw1 => wtm_at "v_rfl"
  case gxhz1 => exact map_len (Nat.le_trans hPl (by decide))
  case gxs1 => wtm_at "v_rfl"
  case gxs2 => wtm_at "v_rfl"
  case gxs3 => intro C; wtm_at "v_rfl"
  case gxs4 => wtm_at "v_rfl"
  case gxok1 => exact ⟨by with_unfolding_all decide, by wtm_at "v_rfl", by with_unfolding_all decide, by wtm_at "v_rfl", sub_cons sub_nil (by wtm_at "v_rfl"), (fun C y hy => by rw [List.mem_singleton.mp hy]; wtm_at "v_rfl"), fun _ => by wtm_at "v_rfl"⟩
  case gxrun1 =>
    refine run_map (fun q : Pr => pr q.1 q.2) _ P (fun q hq => ?gxel)
    case gxel =>
      have hs : Fn w 3 153 ⟨.none, a :: ex⟩ [pr q.1 q.2, .int figs] [] _ [] := fn_shape (hP q hq) hf
      wtm_at "v_ev"
  -- count
  with_reducible refine' Ex.assign (v := .int (cntF P figs)) (Ev.maxOf (l := P.map fun q => cntI q.1 q.2 figs) bi_max ?gxc1 ?gxc2 ?gxc3 ?gxc4 ?gxc5 ?gxc6) ?_ ?gxkx ?gxks
  case gxkx => wtm_at "v_kd"
  case gxks => wtm_at "v_rfl"
  case gxc2 => exact map_len (Nat.le_trans hPl (by decide))
  case gxc3 => wtm_at "v_rfl"
  case gxc4 => intro e l o r p q; subst q; wtm_at "v_rfl"
  case gxc5 => wtm_at "v_rfl"
  case gxc6 => decide
  case gxc1 =>
    refine' Ev.comp (xs := shV P figs) (σ₁ := []) (ρf := []) (cl := []) (Source.list ?gxe4) ?gxok4 CompSee.nil ?gxhz4 (fun C a => ?gxrun4)
    case gxe4 => wtm_at "v_ev"
    case gxhz4 => exact map_len (Nat.le_trans hPl (by decide))
    case gxok4 => exact ⟨by with_unfolding_all decide, by wtm_at "v_rfl", by with_unfolding_all decide, by wtm_at "v_rfl", sub_nil, (fun C y hy => (List.mem_cons.mp hy).elim (fun e => by rw [e]; wtm_at "v_rfl") (fun hy => by rw [List.mem_singleton.mp hy]; wtm_at "v_rfl")), fun _ => by wtm_at "v_rfl"⟩
    case gxrun4 =>
      rw [List.map_map]
      refine run_pair (fun q : Pr => .str (figT q.1 q.2 figs)) (fun q => .int (figE q.1 q.2 figs)) _ P (fun q hq => ?gxel)
      case gxel =>
        have hT := figT_len (hP q hq) hf
        have hs : Fn w 1 160 ⟨.none, a :: ex⟩ [.str (figT q.1 q.2 figs)] [] _ [] := fn_count hT.1 hT.2
        refine' Ev.of ?gxe5 ?gxe6
        case gxe5 => wtm_at "v_ev"
        case gxe6 => rfl
  -- places
  with_reducible refine' Ex.assign (v := .int (plF P figs)) (Ev.of (Ev.maxOf (l := plL P figs) bi_max ?gxc1 ?gxc2 ?gxc3 ?gxc4 ?gxc5 ?gxc6) ?gxc7) ?_ ?gxkx ?gxks
  case gxkx => wtm_at "v_kd"
  case gxks => wtm_at "v_rfl"
  case gxc7 => rw [plL_eq 0 (Int.le_refl _)]; rfl
  case gxc2 => exact map_len (Nat.le_trans hPl (by decide))
  case gxc3 => wtm_at "v_rfl"
  case gxc4 => intro e l o r p q; subst q; wtm_at "v_rfl"
  case gxc5 => wtm_at "v_rfl"
  case gxc6 => decide
  case gxc1 =>
    refine' Ev.comp (xs := shV P figs) (σ₁ := []) (ρf := []) (cl := []) (Source.list ?gxe4) ?gxok4 CompSee.nil ?gxhz4 (fun C a => ?gxrun4)
    case gxe4 => wtm_at "v_ev"
    case gxhz4 => exact map_len (Nat.le_trans hPl (by decide))
    case gxok4 => exact ⟨by with_unfolding_all decide, by wtm_at "v_rfl", by with_unfolding_all decide, by wtm_at "v_rfl", sub_nil, (fun C y hy => (List.mem_cons.mp hy).elim (fun e => by rw [e]; wtm_at "v_rfl") (fun hy => by rw [List.mem_singleton.mp hy]; wtm_at "v_rfl")), fun _ => by wtm_at "v_rfl"⟩
    case gxrun4 =>
      unfold plL
      rw [List.map_map]
      refine run_pair (fun q : Pr => .str (figT q.1 q.2 figs)) (fun q => .int (figE q.1 q.2 figs)) _ P (fun q hq => ?gxel)
      case gxel =>
        have hT := figT_len (hP q hq) hf
        have hs : Fn w 1 160 ⟨.none, a :: ex⟩ [.str (figT q.1 q.2 figs)] [] _ [] := fn_count hT.1 hT.2
        refine' Ev.of ?gxe5 ?gxe6
        case gxe5 => wtm_at "v_ev"
        case gxe6 => rfl
  -- front
  with_reducible refine' Ex.assign (v := .int (leftF P figs)) (Ev.of (Ev.maxOf (l := frL P figs) bi_max ?gxc1 ?gxc2 ?gxc3 ?gxc4 ?gxc5 ?gxc6) ?gxc7) ?_ ?gxkx ?gxks
  case gxkx => wtm_at "v_kd"
  case gxks => wtm_at "v_rfl"
  case gxc7 => rw [frL_eq]; rfl
  case gxc2 => exact map_len (Nat.le_trans hPl (by decide))
  case gxc3 => wtm_at "v_rfl"
  case gxc4 => intro e l o r p q; subst q; wtm_at "v_rfl"
  case gxc5 => wtm_at "v_rfl"
  case gxc6 => decide
  case gxc1 =>
    have hpz : (prs P).length < 2 ^ 62 := Nat.lt_of_le_of_lt (map_len hPl) (by decide)
    have hpl2 : (prs P).length = P.length := List.length_map ..
    refine' Ev.comp (xs := rangeV (prs P).length) (ys := (frL P figs).map .int) (σ₁ := []) (ρf := [(Str.ofString "shapes", .list (shV P figs)), (Str.ofString "simple", .list (prs P))]) (cl := [(Str.ofString "simple", L + 2), (Str.ofString "shapes", L + 3)]) (Source.range (EvR.of bi_range ?gxe4 ?gxr1 ?gxr2 ?gxr3) ?gxr4) ?gxok4 (CompSee.cons (CompSee.cons CompSee.nil ?gxs1 ?gxs2 ?gxs3 ?gxs4) ?gxs5 ?gxs6 ?gxs7 ?gxs8) ?gxhz4 (fun C a => ?gxrun4)
    case gxe4 => wtm_at "v_ev"
    case gxr1 => wtm_at "v_rfl"
    case gxr2 => wtm_at "v_rfl"
    case gxr3 => decide
    case gxr4 => exact map_len (Nat.le_trans hPl (by decide))
    case gxhz4 => rw [rangeV_len]; exact map_len (Nat.le_trans hPl (by decide))
    case gxs1 => wtm_at "v_rfl"
    case gxs2 => wtm_at "v_rfl"
    case gxs3 => intro C; wtm_at "v_rfl"
    case gxs4 => wtm_at "v_rfl"
    case gxs5 => wtm_at "v_rfl"
    case gxs6 => wtm_at "v_rfl"
    case gxs7 => intro C; wtm_at "v_rfl"
    case gxs8 => wtm_at "v_rfl"
    case gxok4 => exact ⟨by with_unfolding_all decide, by wtm_at "v_rfl", by with_unfolding_all decide, by wtm_at "v_rfl", sub_cons (sub_cons sub_nil (by wtm_at "v_rfl")) (by wtm_at "v_rfl"), (fun C y hy => by rw [List.mem_singleton.mp hy]; wtm_at "v_rfl"), fun _ => by wtm_at "v_rfl"⟩
    case gxrun4 =>
      unfold frL
      rw [List.map_map, hpl2, ← range_map P (0, 1)]
      refine run_map (fun i : Nat => .int (i : Int)) _ (List.range P.length) (fun i hi => ?gxel)
      case gxel =>
        have hi := List.mem_range.mp hi
        have g : P[i]? = some (P.getD i (0, 1)) := by
          rw [List.getD, List.getElem?_eq_getElem hi]; rfl
        generalize P.getD i (0, 1) = q at g
        have g1 : (shV P figs)[(i : Int).toNat]? = some (.tup [.str (figT q.1 q.2 figs), .int (figE q.1 q.2 figs)]) := by
          rw [List.getElem?_map, Int.toNat_natCast, g]; rfl
        have g2 : (prs P)[(i : Int).toNat]? = some (pr q.1 q.2) := by
          rw [List.getElem?_map, Int.toNat_natCast, g]; rfl
        have hi0 : (0 : Int) ≤ (i : Int) := Int.natCast_nonneg i
        have hz1 : (shV P figs).length < 2 ^ 62 := Nat.lt_of_le_of_lt (map_len hPl) (by decide)
        refine' Ev.of ?gxe5 ?gxe6
        case gxe5 => wtm_at "v_ev"
        case gxe6 =>
          simp only [lt_iff]
          rfl
  -- more
  with_reducible refine' Ex.assign (v := .int (wdF P figs)) (Ev.maxOf (l := (P.filter fun q => decide (99 < bab (figE q.1 q.2 figs))).map fun q => wdM q.1 q.2 figs) bi_max ?gxc1 ?gxc2 ?gxc3 ?gxc4 ?gxc5 ?gxc6) ?_ ?gxkx ?gxks
  case gxkx => wtm_at "v_kd"
  case gxks => wtm_at "v_rfl"
  case gxc2 => rw [List.length_map]; exact Nat.le_trans (List.length_filter_le _ _) (Nat.le_trans hPl (by decide))
  case gxc3 => wtm_at "v_rfl"
  case gxc4 => intro e l o r p q; subst q; wtm_at "v_rfl"
  case gxc5 => wtm_at "v_rfl"
  case gxc6 => decide
  case gxc1 =>
    refine' Ev.comp (xs := shV P figs) (σ₁ := []) (ρf := []) (cl := []) (Source.list ?gxe4) ?gxok4 CompSee.nil ?gxhz4 (fun C a => ?gxrun4)
    case gxe4 => wtm_at "v_ev"
    case gxhz4 => exact map_len (Nat.le_trans hPl (by decide))
    case gxok4 => exact ⟨by with_unfolding_all decide, by wtm_at "v_rfl", by with_unfolding_all decide, by wtm_at "v_rfl", sub_nil, (fun C y hy => (List.mem_cons.mp hy).elim (fun e => by rw [e]; wtm_at "v_rfl") (fun hy => by rw [List.mem_singleton.mp hy]; wtm_at "v_rfl")), fun _ => by wtm_at "v_rfl"⟩
    case gxrun4 =>
      rw [List.map_map]
      refine run_pair_if (fun q : Pr => .str (figT q.1 q.2 figs)) (fun q => .int (figE q.1 q.2 figs)) _ _ P (fun q hq => ?gxt) (fun q hq _ => ?gxel)
      case gxt => wtm_at "v_tst"
      case gxel =>
        have hE := figE_bound (figs := figs) (hP q hq)
        have hbd : Dig 480 (bab (figE q.1 q.2 figs)) := by
          unfold Dig bab
          refine Nat.lt_of_lt_of_le (m := 10 ^ 3) ?_ (Nat.pow_le_pow_right (by decide) (by decide))
          split <;> omega
        have hst := hbd.str
        have hsl : (dS (bab (figE q.1 q.2 figs))).length ≤ 480 := by
          rw [len_dS (bab_nonneg _)]; exact len10_dig (bab_nonneg _) hbd (by decide)
        have hsl2 : (dS (bab (figE q.1 q.2 figs))).length < 2 ^ 62 := by omega
        refine' Ev.of ?gxe5 ?gxe6
        case gxe5 => wtm_at "v_ev"
        case gxe6 => rfl
  -- side
  with_reducible refine' Ex.assign (v := .int (mnF P)) (Ev.of (Ev.iteI (c := !(prs (P.filter fun q => decide (q.1 < 0))).isEmpty) (Tst.cmp1 ?gxc1 ?gxc2 ?gxc3 ?gxc4 ?gxc5) (fun _ => ?gxc6) (fun _ => ?gxc7)) ?gxc8) ?_ ?gxkx ?gxks
  case gxkx => wtm_at "v_kd"
  case gxks => wtm_at "v_rfl"
  case gxc3 => exact Cmp1.neNil eqbs_prs (by have := dats_prs (P := P.filter fun q => decide (q.1 < 0)); simp only [Val.dat, PyData.depth]; omega)
  case gxc4 => decide
  case gxc5 => wtm_at "v_rfl"
  case gxc1 =>
    refine' Ev.comp (xs := prs P) (σ₁ := []) (ρf := []) (cl := []) (Source.list ?gxe4) ?gxok4 CompSee.nil ?gxhz4 (fun C a => ?gxrun4)
    case gxe4 => wtm_at "v_ev"
    case gxhz4 => exact map_len (Nat.le_trans hPl (by decide))
    case gxok4 => exact ⟨by with_unfolding_all decide, by wtm_at "v_rfl", by with_unfolding_all decide, by wtm_at "v_rfl", sub_nil, (fun C y hy => by rw [List.mem_singleton.mp hy]; wtm_at "v_rfl"), fun _ => by wtm_at "v_rfl"⟩
    case gxrun4 =>
      refine run_if (fun q : Pr => pr q.1 q.2) (fun q : Pr => pr q.1 q.2) _ P (fun q hq => ?gxt) (fun q hq hn => ?gxel)
      case gxt => wtm_at "v_tst"
      case gxel => wtm_at "v_ev"
  case gxc2 => exact Ev.list Evs.nil (Nat.zero_le _)
  case gxc6 => exact Ev.int
  case gxc7 => exact Ev.int
  case gxc8 =>
    have e : (prs (P.filter fun q => decide (q.1 < 0))).isEmpty = (P.filter fun q => decide (q.1 < 0)).isEmpty := by
      cases (P.filter fun q => decide (q.1 < 0)) <;> rfl
    rw [e, any_filter]
    rfl
  -- fixed
  have hw : decide (leftF P figs + (if decide (0 < plF P figs) = true then plF P figs + 1 else 0) ≤ mnF P + (if decide (1 < cntF P figs) = true then cntF P figs + 1 else 1) + 4 + wdF P figs) = isFix P figs := by
    unfold isFix fixW sciW
    simp only [lt_iff]
  wtm_at "v_asg"
  rw [hw]
  have hfN : fN P figs = if isFix P figs = true then plF P figs else cntF P figs := rfl
  rw [hfN]
  generalize isFix P figs = b
  generalize hpp : plF P figs = p at hpl
  generalize hcc : cntF P figs = n at hct
  -- found
  refine Ex.newmut (fun c => ?_) (.inl (by wtm_at "v_rfl")) (by wtm_at "v_rfl")
  with_reducible refine' Ex.forL (xs := pxs X) (fun i ρ' σ' => σ' = ((X.take i).map (showT b (if b = true then p else n))).map Val.str ∧ At ρ' "places" (.int p) ∧ At ρ' "count" (.int n) ∧ At ρ' "fixed" (.bool b) ∧ At ρ' "found" .cell) ?gxe ?gxh0 (fun i v ρ' σ' hv hJ => ?gxturn) (fun ρ' σ' hJ => ?gxdone) ?gxhx ?gxhs
  case gxe => wtm_at "v_ev"
  case gxhx => wtm_at "v_kd"
  case gxhs => intro _; wtm_at "v_rfl"
  case gxh0 => exact ⟨rfl, by rw [← hpp]; wtm_at "v_at", by rw [← hcc]; wtm_at "v_at", by wtm_at "v_at", by wtm_at "v_at"⟩
  case gxturn =>
    obtain ⟨hs, r1, r2, r3, r4⟩ := hJ
    have hsz : σ'.length ≤ 1000000 := by
      rw [hs, List.length_map, List.length_map, List.length_take]; lia
    rw [List.getElem?_map] at hv
    cases hq : X[i]? with
    | none => rw [hq] at hv; cases hv
    | some q =>
      rw [hq] at hv
      have hv : v = q.val := by cases hv; rfl
      subst hv
      have hqX : q.Ok := hX q (List.mem_of_getElem? hq)
      have hs2 : σ' ++ [Val.str (showT b (if b = true then p else n) q)] = ((X.take (i + 1)).map (showT b (if b = true then p else n))).map Val.str := by
        rw [hs, take_snoc hq, List.map_append, List.map_append]; rfl
      with_reducible refine' Ex.ite (c := !q.num) ?gxe (fun c1 => ?gxa) (fun c1 => ?gxb)
      case gxe =>
        cases q with
        | none =>
          refine Tst.bop (Alls.orT ?gxq)
          case gxq =>
            show Tst w _ _ _ _ _ _ (Val.isNone (Px.val .none)) _
            wtm_at "v_tst"
        | some q =>
          obtain ⟨x, d⟩ := q
          refine' Tst.of (b := Val.isNone (Px.val (some (x, d))) || decide (d = 0)) ?gxt2 ?gxe2
          case gxt2 => wtm_at "v_tst"
          case gxe2 =>
            show (false || decide (d = 0)) = !decide (0 < d)
            rcases hqX with h | ⟨h, _⟩
            · have := h.d0
              rw [decide_eq_true this, decide_eq_false (by lia)]; rfl
            · rw [decide_eq_true h, decide_eq_false (by lia)]; rfl
      case gxa =>
        have hn : q.num = false := by
          cases h : q.num with
          | false => rfl
          | true => rw [h] at c1; exact Bool.noConfusion c1
        have hsp : showT b (if b = true then p else n) q = spT q := by
          cases q with
          | none => rfl
          | some q =>
            obtain ⟨x, d⟩ := q
            have : ¬ 0 < d := of_decide_eq_false hn
            show (if 0 < d then _ else spT (some (x, d))) = _
            rw [if_neg this]
        have hfs : Fn w 1 181 ⟨some c, ex⟩ [q.val] σ' _ σ' := fn_lspecial hqX hn
        wtm_at "v_exp"
        with_reducible refine' Ex.fin ?_
        with_reducible refine' Ex.loopEnd ?_
        refine ⟨?_, r1, r2, r3, r4⟩
        rw [← hs2, hsp]
      case gxb =>
        have hn : q.num = true := by
          cases h : q.num with
          | true => rfl
          | false => rw [h] at c1; exact Bool.noConfusion c1
        cases q with
        | none => cases hn
        | some q =>
          obtain ⟨x, d⟩ := q
          have hd : 0 < d := of_decide_eq_true hn
          have hq : PairOk x d := hqX.elim id fun z => absurd z.1 (by lia)
          have hsp : showT b (if b = true then p else n) (some (x, d)) = if b = true then fixT x d p else sciT x d n := by
            show (if 0 < d then (if b = true then fixT x d (if b = true then p else n) else sciT x d (if b = true then p else n)) else spT (some (x, d))) = _
            rw [if_pos hd]
            cases b <;> rfl
          have hf1 : Fn w 3 167 ⟨some c, ex⟩ [Px.val (some (x, d)), .int p] σ' (.str (fixT x d p)) σ' := fn_lfixed hq hpl
          have hf2 : Fn w 4 174 ⟨some c, ex⟩ [Px.val (some (x, d)), .int n] σ' (.str (sciT x d n)) σ' := fn_science hq hct
          wtm_at "v_exp"
          with_reducible refine' Ex.fin ?_
          with_reducible refine' Ex.loopEnd ?_
          refine ⟨?_, r1, r2, r3, r4⟩
          rw [← hs2, hsp]
  case gxdone =>
    obtain ⟨hs, r1, r2, r3, r4⟩ := hJ
    have e : X.take (pxs X).length = X := by rw [List.length_map]; exact List.take_length
    rw [e] at hs
    with_reducible refine' Ex.ret ?gxev ?gxpo
    case gxev => wtm_at "v_ev"
    case gxpo =>
      refine ⟨?_, rfl, ?_, rfl⟩
      · intro _
        rw [hs, List.all_map, List.all_map]
        rw [List.all_eq_true]
        intro x _
        rfl
      · show Val.list σ' = _
        rw [hs]
end

section
open PySem PySem.Spec PySem.Calls PySem.W PyProof PyProof.Rows PySem.SeqAt
variable {w : World} {k : Nat} {D : Dm} {σ : List Val}
theorem Ex1.mono {env : Env} {ρ : Rho} {st : Stmt} {Φ Ψ : Out → Rho → List Val → Prop} (x : Ex1 w k env D ρ σ st Φ) (h : ∀ o ρ' σ', Φ o ρ' σ' → Ψ o ρ' σ') : Ex1 w k env D ρ σ st Ψ := fun A E s B hA S =>
  wpAny_mono (x A E s B hA S) (fun f s' ⟨h', tk, o, ρ', σ', e, k', r, st, S', p⟩ => ⟨h', tk, o, ρ', σ', e, k', r, st, S', h _ _ _ p⟩) fun _ _ e => e
theorem Ex.joinT {env : Env} {ρ : Rho} {st : Stmt} {rest : List Stmt} {Φ : Out → Rho → List Val → Prop} (K : Rho → List Val → Prop) (x : Ex1 w k env D ρ σ st (JoinΦ K Φ)) (hr : ∀ ρ' σ', K ρ' σ' → Ex w k env D ρ' σ' rest Φ) : Ex w k env D ρ σ (st :: rest) Φ :=
  .cons (x.mono fun o ρ' σ' q => by
    cases o with
    | next => exact hr ρ' σ' q
    | brk => exact q
    | cont => exact q
    | ret v => exact q
    | retNew v => exact q)
/-- a for whose ends meet -/
theorem Ex.forRJ {env : Env} {ρ : Rho} {σ₁ : List Val} {x : Str} {px pos : Pos} {iter : Expr} {body : List Stmt} {n : Nat} {rest : List Stmt} {Φ : Out → Rho → List Val → Prop} (J : Nat → Rho → List Val → Prop) (K : Rho → List Val → Prop) (hi : EvR w k env D ρ σ iter n σ₁) (hn : n ≤ 1000000) (h0 : J 0 ρ σ₁)
    (turn : ∀ i ρ' σ', i < n → J i ρ' σ' → Ex w k env D ((x, .int (i : Int)) :: ρ') σ' body (LoopΦ (J (i + 1)) (JoinΦ K Φ)))
    (done : ∀ ρ' σ', J n ρ' σ' → K ρ' σ') (hr : ∀ ρ' σ', K ρ' σ' → Ex w k env D ρ' σ' rest Φ)
    (hx : NameOk env x) (hs : ∀ x, foldedSetIterable iter env x = pure x) : Ex w k env D ρ σ (.For (.Name x px) iter body [] pos :: rest) Φ :=
  .joinT K (.forR J hi hn h0 turn done hx hs) hr
theorem Ex.forLJ {env : Env} {ρ : Rho} {σ₁ : List Val} {x : Str} {px pos : Pos} {iter : Expr} {body : List Stmt} {xs : List Val} {rest : List Stmt} {Φ : Out → Rho → List Val → Prop} (J : Nat → Rho → List Val → Prop) (K : Rho → List Val → Prop) (hi : Ev w k env D ρ σ iter (.list xs) σ₁) (h0 : J 0 ρ σ₁)
    (turn : ∀ i v ρ' σ', xs[i]? = some v → J i ρ' σ' → Ex w k env D ((x, v) :: ρ') σ' body (LoopΦ (J (i + 1)) (JoinΦ K Φ)))
    (done : ∀ ρ' σ', J xs.length ρ' σ' → K ρ' σ') (hr : ∀ ρ' σ', K ρ' σ' → Ex w k env D ρ' σ' rest Φ)
    (hx : NameOk env x) (hs : ∀ x, foldedSetIterable iter env x = pure x) : Ex w k env D ρ σ (.For (.Name x px) iter body [] pos :: rest) Φ :=
  .joinT K (.forL J hi h0 turn done hx hs) hr

/-- the pool of figures -/
structure Pool where
  figs : List Int
  i : Nat
  mix : Int
noncomputable def Pool.vals (p : Pool) : List Val := [.list (p.figs.map .int), .int (p.i : Int), .int p.mix]
structure Pool.Ok (p : Pool) : Prop where
  few : p.figs.length ≤ 1000
  mix0 : 0 ≤ p.mix
  mix1 : p.mix < 1009
noncomputable def Pool.mix' (p : Pool) : Int := (p.mix * 37 + 11).fmod 1009
noncomputable def Pool.fig (p : Pool) : Int := if p.i < p.figs.length then p.figs.getD p.i 0 else if p.figs.length < 3 then 0 else p.mix'
noncomputable def Pool.next (p : Pool) : Pool := if p.i < p.figs.length then ⟨p.figs, p.i + 1, p.mix⟩ else if p.figs.length < 3 then p else ⟨p.figs, p.i, p.mix'⟩
noncomputable def Pool.pick (p : Pool) (b : Int) : Int := p.fig.fmod b
theorem mod1009 (a : Int) : 0 ≤ a.fmod 1009 ∧ a.fmod 1009 < 1009 := by
  rw [Int.fmod_eq_emod_of_nonneg _ (by decide)]; lia
theorem Pool.Ok.next {p : Pool} (h : p.Ok) : p.next.Ok := by
  have := mod1009 (p.mix * 37 + 11)
  unfold Pool.next
  split
  · exact ⟨h.few, h.mix0, h.mix1⟩
  · split
    · exact h
    · exact ⟨h.few, this.1, this.2⟩
theorem Pool.pick_bound {p : Pool} {b : Int} (h : 0 < b) : 0 ≤ p.pick b ∧ p.pick b < b := by
  unfold Pool.pick
  rw [Int.fmod_eq_emod_of_nonneg _ (Int.le_of_lt h)]
  exact ⟨Int.emod_nonneg _ (by omega), Int.emod_lt_of_pos _ h⟩
theorem fn_pick {ex : List Addr} {c : Addr} {p : Pool} {b : Int} (h : p.Ok) (hb : 0 < b) : Fn w 1 132 ⟨some c, ex⟩ [.cell, .int b] p.vals (.int (p.pick b)) p.next.vals := by
  have hb0 : b ≠ 0 := by omega
  wtm_at "v_fill"
  refine Fn.intro (ps := ["pool", "bound"]) (by k_is) (by k_is) (us2 fun _ _ => by wtm_at "v_rfl") rfl (by decide) (fun L x hx => .inl (by revert x; decide)) rfl rfl rfl (fun L => ?_)
  obtain ⟨figs, i, mix⟩ := p
  have hl1 : (figs.map Val.int).length < 2 ^ 62 := by rw [List.length_map]; exact Nat.lt_of_le_of_lt h.few (by decide)
  have hlen : (figs.map Val.int).length = figs.length := List.length_map ..
  have h1 : h.few = h.few := rfl
  have hm : IntMulOk mix 37 := by
    have a := h.mix0
    have b := h.mix1
    refine Dig.mulOk (Dig.mono (j := 4) ?_ (by decide)) (Dig.mono (j := 2) (by unfold Dig; decide) (by decide))
    unfold Dig
    dsimp only at a b
    lia
  have hv : Pool.vals ⟨figs, i, mix⟩ = [.list (figs.map .int), .int (i : Int), .int mix] := rfl
  rw [hv]
  have hz3 : [Val.list (figs.map .int), .int (i : Int), .int mix].length < 2 ^ 62 := by
    show 3 < 2 ^ 62
    decide
  have hz4 : [Val.list (figs.map .int), .int (i : Int), .int mix].length ≤ 1000000 := by
    show 3 ≤ 1000000
    decide
  with_reducible refine' Ex.ifJ (fun ρ σ' => σ' = (Pool.next ⟨figs, i, mix⟩).vals ∧ At ρ "bound" (.int b) ∧ At ρ "figure" (.int (Pool.fig ⟨figs, i, mix⟩))) ?gxe (fun c2 => ?gxa) (fun c2 => ?gxb) ?gxr
  case gxe => wtm_at "v_tst"
  case gxa =>
    have c2 := of_decide_eq_true c2
    rw [hlen] at c2
    have c3 : i < figs.length := by omega
    have g : (figs.map Val.int)[((i : Nat) : Int).toNat]? = some (.int (figs.getD i 0)) := by
      rw [List.getElem?_map, Int.toNat_natCast, List.getD, List.getElem?_eq_getElem c3]; rfl
    have hi0 : (0 : Int) ≤ (i : Int) := Int.natCast_nonneg i
    wtm_at "v_asg"
    with_reducible refine' Ex.augM (n := 1) ?gxh1 ?gxh2 ?gxh3 ?gxh4 ?gxh5 Inp.add ?gxh6 ?_ ?gxh7
    case gxh1 => wtm_at "v_ev"
    case gxh2 => wtm_at "v_ev"
    case gxh3 => decide
    case gxh4 => rfl
    case gxh5 => wtm_at "v_ev"
    case gxh6 => exact hz4
    case gxh7 => intro _ _ _; wtm_at "v_rfl"
    refine Ex.join ⟨?_, by wtm_at "v_at", ?_⟩
    · unfold Pool.next
      rw [if_pos c3]
      rfl
    · unfold Pool.fig
      rw [if_pos c3]
      wtm_at "v_at"
  case gxb =>
    have c2 := of_decide_eq_false c2
    rw [hlen] at c2
    have c3 : ¬ i < figs.length := by omega
    with_reducible refine' Ex.ite ?gxe (fun c4 => ?gxa2) (fun c4 => ?gxb2)
    case gxe => wtm_at "v_tst"
    case gxa2 =>
      have c4 := of_decide_eq_true c4
      rw [hlen] at c4
      wtm_at "v_asg"
      with_reducible refine' Ex.fin ?_
      refine Ex.join ⟨?_, by wtm_at "v_at", ?_⟩
      · unfold Pool.next
        rw [if_neg c3, if_pos (by dsimp only; lia)]
        rfl
      · unfold Pool.fig
        rw [if_neg c3, if_pos (by dsimp only; omega)]
        wtm_at "v_at"
    case gxb2 =>
      have c4 := of_decide_eq_false c4
      rw [hlen] at c4
      with_reducible refine' Ex.setM (n := 2) ?gxh1 ?gxh2 ?gxh3 ?gxh4 ?gxh5 ?gxh6 ?_ ?gxh7
      case gxh1 => wtm_at "v_ev"
      case gxh2 => wtm_at "v_ev"
      case gxh3 => wtm_at "v_ev"
      case gxh4 => decide
      case gxh5 => show (2 : Int) < 3; decide
      case gxh6 => exact hz4
      case gxh7 => wtm_at "v_rfl"
      have hz5 : ([Val.list (figs.map .int), .int (i : Int), .int mix].set (2 : Int).toNat (.int ((mix * 37 + 11).fmod 1009))).length < 2 ^ 62 := by
        show 3 < 2 ^ 62
        decide
      wtm_at "v_asg"
      with_reducible refine' Ex.fin ?_
      refine Ex.join ⟨?_, by wtm_at "v_at", ?_⟩
      · unfold Pool.next
        rw [if_neg c3, if_neg (by dsimp only; lia)]
        rfl
      · unfold Pool.fig
        rw [if_neg c3, if_neg (by dsimp only; omega)]
        wtm_at "v_at"
  case gxr =>
    rintro ρ' σ' ⟨rfl, r1, r2⟩
    wtm_at "v_ret"
    rfl
end

section
open PySem PySem.Spec PySem.Calls PySem.W PyProof PyProof.Rows PySem.SeqAt
variable {w : World} {k : Nat} {D : Dm} {σ : List Val}
noncomputable def menuK : List Px := [.none, some (0, 0), some (1, 0), some (-1, 0)]
noncomputable def menuD : List Int := [10, 1, 2, 3, 7, 1000, 64, 10 ^ 6]
noncomputable def menuF : List Int := [0, 0, 1, -1, 4, -4, 12, -12, 110, -110]
/-- the drawn fraction -/
noncomputable def frac (n d far : Int) (neg : Bool) : Int × Int :=
  let n1 := n * 10 ^ (mx 0 far).toNat
  let d1 := d * 10 ^ (mx 0 (-far)).toNat
  let n2 := if neg = true then -n1 else n1
  (n2, d1)
noncomputable def low (q : Int × Int) : Px := some (q.1.fdiv (Int.gcd (bab q.1) q.2 : Int), q.2.fdiv (Int.gcd (bab q.1) q.2 : Int))
noncomputable def dblN (p : Pool) (cs : List Int) : Int := if p.pick 9 < 4 then p.next.pick 840 else cs.getD (p.next.pick cs.length).toNat 0
noncomputable def dblQ (n : Int) (p2 : Pool) : Int × Int := frac n (menuD.getD (p2.pick 8).toNat 0) (menuF.getD (p2.next.pick 10).toNat 0) (decide (p2.next.next.pick 3 = 2))
noncomputable def dbl (p : Pool) (cs : List Int) : Px × Pool :=
  if 7 < p.pick 9 then (menuK.getD (p.next.pick 4).toNat .none, p.next.next)
  else (low (dblQ (dblN p cs) p.next.next), p.next.next.next.next.next)
theorem menuF_ok : ∀ i, i < 10 → -110 ≤ menuF.getD i 0 ∧ menuF.getD i 0 ≤ 110 := by decide
theorem menuD_ok : ∀ i, i < 8 → 0 < menuD.getD i 0 ∧ menuD.getD i 0 ≤ 1000000 := by decide
theorem menuK_ok : ∀ i, i < 4 → Px.Ok (menuK.getD i .none) := by
  intro i hi
  match i, hi with
  | 0, _ => exact True.intro
  | 1, _ => exact .inr ⟨rfl, .inl rfl⟩
  | 2, _ => exact .inr ⟨rfl, .inr (.inl rfl)⟩
  | 3, _ => exact .inr ⟨rfl, .inr (.inr rfl)⟩
structure FracOk (q : Int × Int) : Prop where
  d0 : 0 < q.2
  dx : Dig 130 q.1
  dd : Dig 130 q.2
theorem FracOk.gcd {q : Int × Int} (h : FracOk q) : 0 < (Int.gcd (bab q.1) q.2 : Int) ∧ (Int.gcd (bab q.1) q.2 : Int) ≤ q.2 ∧ ((Int.gcd (bab q.1) q.2 : Nat) : Int) ∣ q.1 ∧ ((Int.gcd (bab q.1) q.2 : Nat) : Int) ∣ q.2 := by
  have hd := h.d0
  have h2 := Int.gcd_dvd_right (bab q.1) q.2
  have h1 := Int.gcd_dvd_left (bab q.1) q.2
  have h0 : 0 < Int.gcd (bab q.1) q.2 := Int.gcd_pos_of_ne_zero_right _ (by lia)
  refine ⟨Int.natCast_pos.mpr h0, Int.le_of_dvd hd h2, ?_, h2⟩
  unfold bab at h1 ⊢
  split at h1
  · rename_i c
    rw [if_pos c]
    exact (Int.dvd_neg).mp h1
  · rename_i c
    rw [if_neg c]
    exact h1
theorem low_ok {q : Int × Int} (h : FracOk q) : (low q).Ok := by
  obtain ⟨g0, g1, g2, g3⟩ := h.gcd
  have hd := h.d0
  have dx := h.dx
  have dd := h.dd
  refine .inl ?_
  generalize (Int.gcd (bab q.1) q.2 : Int) = g at g0 g1 g2 g3
  obtain ⟨a, ha⟩ := g2
  obtain ⟨b, hb⟩ := g3
  have e1 : q.1.fdiv g = a := by rw [ha, Int.mul_fdiv_cancel_left _ (by lia)]
  have e2 : q.2.fdiv g = b := by rw [hb, Int.mul_fdiv_cancel_left _ (by omega)]
  have key : ∀ z y : Int, z = g * y → y.natAbs ≤ z.natAbs := fun z y e => by
    rw [e, Int.natAbs_mul]
    exact Nat.le_mul_of_pos_left _ (by omega)
  rw [e1, e2]
  refine ⟨?_, ?_, ?_⟩
  · rw [hb] at hd
    rcases Int.lt_or_le 0 b with h | h
    · exact h
    · have := Int.mul_le_mul_of_nonneg_left h (Int.le_of_lt g0)
      rw [Int.mul_zero] at this
      omega
  · have := key _ _ ha
    exact Nat.lt_of_lt_of_le (Nat.lt_of_le_of_lt this dx) (Nat.pow_le_pow_right (by decide) (by decide))
  · have := key _ _ hb
    exact Nat.lt_of_lt_of_le (Nat.lt_of_le_of_lt this dd) (Nat.pow_le_pow_right (by decide) (by decide))
theorem frac_ok {n d far : Int} {neg : Bool} (hn : Dig 16 n) (hd : 0 < d ∧ d ≤ 1000000) (hf : -110 ≤ far ∧ far ≤ 110) : FracOk (frac n d far neg) := by
  have dd : Dig 7 d := by unfold Dig; omega
  have h1 := mx_nat far
  have h2 := mx_nat (-far)
  have q1 : Dig 130 (n * 10 ^ (mx 0 far).toNat) := (hn.mul Dig.pow).mono (by rw [h1]; exact Nat.le_trans (Nat.add_le_add_left (Nat.succ_le_succ (tle (n := 110) hf.2)) 16) (by decide))
  have q2 : Dig 130 (d * 10 ^ (mx 0 (-far)).toNat) := (dd.mul Dig.pow).mono (by rw [h2]; exact Nat.le_trans (Nat.add_le_add_left (Nat.succ_le_succ (tle (n := 110) (Int.neg_le_neg hf.1))) 7) (by decide))
  unfold frac
  refine ⟨Int.mul_pos hd.1 (pow10_pos _), ?_, q2⟩
  dsimp only
  split
  · unfold Dig; rw [Int.natAbs_neg]; exact q1
  · exact q1
structure CsOk (cs : List Int) : Prop where
  ne : 0 < cs.length
  few : cs.length ≤ 10
  dig : ∀ a ∈ cs, Dig 16 a
theorem dblN_ok {p : Pool} {cs : List Int} (h : CsOk cs) : Dig 16 (dblN p cs) := by
  unfold dblN
  split
  · have := Pool.pick_bound (p := p.next) (b := 840) (by decide)
    unfold Dig
    lia
  · have hc : (0 : Int) < cs.length := by have := h.ne; omega
    have := Pool.pick_bound (p := p.next) (b := cs.length) hc
    have hi : (p.next.pick cs.length).toNat < cs.length := by lia
    rw [List.getD, List.getElem?_eq_getElem hi]
    exact h.dig _ (List.getElem_mem hi)
theorem dblQ_ok {p : Pool} {n : Int} (h : Dig 16 n) : FracOk (dblQ n p) := by
  have h1 := Pool.pick_bound (p := p) (b := 8) (by decide)
  have h2 := Pool.pick_bound (p := p.next) (b := 10) (by decide)
  exact frac_ok h (menuD_ok _ (tlt h1.1 h1.2)) (menuF_ok _ (tlt h2.1 h2.2))
theorem dbl_ok {p : Pool} {cs : List Int} (hp : p.Ok) (h : CsOk cs) : (dbl p cs).1.Ok ∧ (dbl p cs).2.Ok := by
  unfold dbl
  split
  · have h1 := Pool.pick_bound (p := p.next) (b := 4) (by decide)
    exact ⟨menuK_ok _ (tlt h1.1 h1.2), hp.next.next⟩
  · exact ⟨low_ok (dblQ_ok (dblN_ok h)), hp.next.next.next.next.next⟩
end

section
open PySem PySem.Spec PySem.Calls PySem.W PyProof PyProof.Rows PySem.SeqAt
variable {w : World} {k : Nat} {D : Dm} {σ : List Val}
theorem menuK_get : ∀ i, i < 4 → (menuK.map Px.val)[i]? = some (menuK.getD i .none).val := by
  intro i hi
  match i, hi with
  | 0, _ => rfl
  | 1, _ => rfl
  | 2, _ => rfl
  | 3, _ => rfl
theorem menuD_get : ∀ i, i < 8 → (menuD.map Val.int)[i]? = some (.int (menuD.getD i 0)) := by
  intro i hi
  rw [List.getElem?_map, List.getD, List.getElem?_eq_getElem (show i < menuD.length from hi)]; rfl
theorem menuF_get : ∀ i, i < 10 → (menuF.map Val.int)[i]? = some (.int (menuF.getD i 0)) := by
  intro i hi
  rw [List.getElem?_map, List.getD, List.getElem?_eq_getElem (show i < menuF.length from hi)]; rfl
theorem gcd_step {a b : Int} (ha : 0 ≤ a) (hb : 0 ≤ b) : Int.gcd b (a % b) = Int.gcd a b := by
  obtain ⟨m, rfl⟩ := Int.eq_ofNat_of_zero_le ha
  obtain ⟨n, rfl⟩ := Int.eq_ofNat_of_zero_le hb
  rw [← Int.natCast_emod, Int.gcd_natCast_natCast, Int.gcd_natCast_natCast, Nat.gcd_comm m n, Nat.gcd_rec n m, Nat.gcd_comm]
theorem fn_double {ex : List Addr} {c : Addr} {p : Pool} {cs : List Int} (h : p.Ok) (hc : CsOk cs) : Fn w 2 193 ⟨some c, ex⟩ [.cell, .list (cs.map .int)] p.vals (dbl p cs).1.val (dbl p cs).2.vals := by
  have hk1 : Fn w 1 132 ⟨some c, ex⟩ [.cell, .int 9] p.vals (.int (p.pick 9)) p.next.vals := fn_pick h (by decide)
  have hK := menuK_get
  wtm_at "v_fill"
  refine Fn.intro (ps := ["pool", "cells"]) (by k_is) (by k_is) (us2 fun _ _ => by wtm_at "v_rfl") rfl (by decide) (fun L x hx => .inl (by revert x; decide)) rfl rfl rfl (fun L => ?_)
  wtm_at "v_asg"
  with_reducible refine' Ex.ite ?gxe (fun c1 => ?gxa) (fun c1 => ?gxb)
  case gxe => wtm_at "v_tst"
  case gxa =>
    have c1 := of_decide_eq_true c1
    have hr : dbl p cs = (menuK.getD (p.next.pick 4).toNat .none, p.next.next) := by unfold dbl; rw [if_pos c1]
    rw [hr]
    have hb := Pool.pick_bound (p := p.next) (b := 4) (by decide)
    have hk2 : Fn w 1 132 ⟨some c, ex⟩ [.cell, .int 4] p.next.vals (.int (p.next.pick 4)) p.next.next.vals := fn_pick h.next (by decide)
    have g := menuK_get (p.next.pick 4).toNat (tlt hb.1 hb.2)
    with_reducible refine' Ex.retRT ?gxev rfl rfl
    case gxev =>
      refine' Ev.itemL (xs := menuK.map Px.val) ?gxf1 ?gxf2 ?gxf3 ?gxf4 ?gxf5 ?gxf6
      case gxf1 =>
        refine' Ev.of ?gxf7 ?gxf8
        case gxf7 => wtm_at "v_ev"
        case gxf8 => rfl
      case gxf2 => wtm_at "v_ev"
      case gxf3 => exact hb.1
      case gxf4 => exact g
      case gxf5 => show 4 < 2 ^ 62; decide
      case gxf6 => intro _ _; wtm_at "v_rfl"
  case gxb =>
    have c1 := of_decide_eq_false c1
    have hr : dbl p cs = (low (dblQ (dblN p cs) p.next.next), p.next.next.next.next.next) := by unfold dbl; rw [if_neg c1]
    rw [hr]
    with_reducible refine' Ex.fin ?_
    have hlen : (cs.map Val.int).length = cs.length := List.length_map ..
    have hl2 : (cs.map Val.int).length < 2 ^ 62 := by rw [hlen]; exact Nat.lt_of_le_of_lt hc.few (by decide)
    have hc0 : (0 : Int) < cs.length := by have := hc.ne; lia
    have hbc := Pool.pick_bound (p := p.next) hc0
    have hk2 : Fn w 1 132 ⟨some c, ex⟩ [.cell, .int 840] p.next.vals (.int (p.next.pick 840)) p.next.next.vals := fn_pick h.next (by decide)
    have hk3 : Fn w 1 132 ⟨some c, ex⟩ [.cell, .int ((cs.map Val.int).length : Int)] p.next.vals (.int (p.next.pick cs.length)) p.next.next.vals := by rw [hlen]; exact fn_pick h.next hc0
    have gc : (cs.map Val.int)[(p.next.pick cs.length).toNat]? = some (.int (cs.getD (p.next.pick cs.length).toNat 0)) := by
      rw [List.getElem?_map, List.getD, List.getElem?_eq_getElem (tlt hbc.1 hbc.2)]; rfl
    have hN : dblN p cs = if decide (p.pick 9 < 4) = true then p.next.pick 840 else cs.getD (p.next.pick cs.length).toNat 0 := by
      unfold dblN; rw [lt_iff]
    have hNok := dblN_ok (p := p) hc
    wtm_at "v_asg"
    rw [← hN]
    generalize dblN p cs = n0 at hNok
    have h2 := h.next.next
    generalize p.next.next = p2 at h2
    have hk4 : Fn w 1 132 ⟨some c, ex⟩ [.cell, .int 8] p2.vals (.int (p2.pick 8)) p2.next.vals := fn_pick h2 (by decide)
    have hb8 := Pool.pick_bound (p := p2) (b := 8) (by decide)
    have g8 := menuD_get (p2.pick 8).toNat (tlt hb8.1 hb8.2)
    have hd8 := menuD_ok (p2.pick 8).toNat (tlt hb8.1 hb8.2)
    have hw6 := powOk (n := 6) (by decide)
    with_reducible refine' Ex.assign (Ev.itemL (xs := menuD.map Val.int) ?gxf1 ?gxf2 ?gxf3 ?gxf4 ?gxf5 ?gxf6) ?_ ?gxkx ?gxks
    case gxkx => wtm_at "v_kd"
    case gxks => wtm_at "v_rfl"
    case gxf1 =>
      refine' Ev.of ?gxf7 ?gxf8
      case gxf7 => wtm_at "v_ev"
      case gxf8 => rfl
    case gxf2 => wtm_at "v_ev"
    case gxf3 => exact hb8.1
    case gxf4 => exact g8
    case gxf5 => show 8 < 2 ^ 62; decide
    case gxf6 => intro _ _; wtm_at "v_rfl"
    have hQ : dblQ n0 p2 = frac n0 (menuD.getD (p2.pick 8).toNat 0) (menuF.getD (p2.next.pick 10).toNat 0) (decide (p2.next.next.pick 3 = 2)) := rfl
    rw [hQ]
    generalize menuD.getD (p2.pick 8).toNat 0 = d0 at hd8
    have h3 := h2.next
    generalize p2.next = p3 at h3
    have hk5 : Fn w 1 132 ⟨some c, ex⟩ [.cell, .int 10] p3.vals (.int (p3.pick 10)) p3.next.vals := fn_pick h3 (by decide)
    have hb10 := Pool.pick_bound (p := p3) (b := 10) (by decide)
    have g10 := menuF_get (p3.pick 10).toNat (tlt hb10.1 hb10.2)
    have hf10 := menuF_ok (p3.pick 10).toNat (tlt hb10.1 hb10.2)
    with_reducible refine' Ex.assign (Ev.itemL (xs := menuF.map Val.int) ?gxf1 ?gxf2 ?gxf3 ?gxf4 ?gxf5 ?gxf6) ?_ ?gxkx ?gxks
    case gxkx => wtm_at "v_kd"
    case gxks => wtm_at "v_rfl"
    case gxf1 =>
      refine' Ev.of ?gxf7 ?gxf8
      case gxf7 => wtm_at "v_ev"
      case gxf8 => rfl
    case gxf2 => wtm_at "v_ev"
    case gxf3 => exact hb10.1
    case gxf4 => exact g10
    case gxf5 => show 10 < 2 ^ 62; decide
    case gxf6 => intro _ _; wtm_at "v_rfl"
    generalize menuF.getD (p3.pick 10).toNat 0 = far at hf10
    have hFr := frac_ok (neg := decide (p3.next.pick 3 = 2)) hNok hd8 hf10
    have h4 := h3.next
    generalize p3.next = p4 at h4 hFr
    have hk6 : Fn w 1 132 ⟨some c, ex⟩ [.cell, .int 3] p4.vals (.int (p4.pick 3)) p4.next.vals := fn_pick h4 (by decide)
    have m1 := mx_le 0 far 110 (by decide) hf10.2
    have m2 := mx_le 0 (-far) 110 (by decide) (Int.neg_le_neg hf10.1)
    have m3 := mx_ge 0 far
    have m4 := mx_ge 0 (-far)
    have w1 := powOk (n := mx 0 far) (Int.le_trans m1 (by decide))
    have w2 := powOk (n := mx 0 (-far)) (Int.le_trans m2 (by decide))
    have dd7 : Dig 7 d0 := by unfold Dig; omega
    have i1 : IntMulOk n0 (10 ^ (mx 0 far).toNat) := (hNok.mono (by decide)).mulOk (pw2k (Int.le_trans m1 (by decide)))
    have i2 : IntMulOk d0 (10 ^ (mx 0 (-far)).toNat) := (dd7.mono (by decide)).mulOk (pw2k (Int.le_trans m2 (by decide)))
    wtm_at "v_asg"
    wtm_at "v_asg"
    wtm_at "v_asg"
    have e1 : (if decide (p4.pick 3 = 2) = true then -(n0 * 10 ^ (mx 0 far).toNat) else n0 * 10 ^ (mx 0 far).toNat) = (frac n0 d0 far (decide (p4.pick 3 = 2))).1 := rfl
    have e2 : d0 * 10 ^ (mx 0 (-far)).toNat = (frac n0 d0 far (decide (p4.pick 3 = 2))).2 := rfl
    rw [e1, e2]
    generalize frac n0 d0 far (decide (p4.pick 3 = 2)) = q at hFr
    have hq0 := hFr.d0
    obtain ⟨gp, gl, gx, gd⟩ := hFr.gcd
    wtm_at "v_up"
    with_reducible refine' Ex.while (fun m ρ' σ' => ∃ a b : Int, 0 ≤ a ∧ 0 ≤ b ∧ m = b.toNat ∧ Int.gcd a b = Int.gcd (bab q.1) q.2 ∧ σ' = p4.next.vals ∧ At ρ' "one" (.int a) ∧ At ρ' "two" (.int b) ∧ At ρ' "n" (.int q.1) ∧ At ρ' "d" (.int q.2)) q.2.toNat ?gxh0 (fun m ρ' σ' hJ => ?gxturn)
    case gxh0 => exact ⟨bab q.1, q.2, bab_nonneg _, Int.le_of_lt hq0, rfl, rfl, rfl, by wtm_at "v_at", by wtm_at "v_at", by wtm_at "v_at", by wtm_at "v_at"⟩
    case gxturn =>
      obtain ⟨a, b, ha, hb, rfl, hg, rfl, r1, r2, r3, r4⟩ := hJ
      refine ⟨decide (0 < b), ?_, ?_, ?_⟩
      · wtm_at "v_tst"
      · intro c2
        have c2 := of_decide_eq_true c2
        have hb0 : b ≠ 0 := by lia
        have hm : 0 ≤ a.fmod b ∧ a.fmod b < b := by
          rw [Int.fmod_eq_emod_of_nonneg _ hb]
          exact ⟨Int.emod_nonneg _ hb0, Int.emod_lt_of_pos _ c2⟩
        wtm_at "v_up"
        refine Ex.loopEnd ⟨(a.fmod b).toNat, (Int.toNat_lt_toNat c2).mpr hm.2, b, a.fmod b, hb, hm.1, rfl, ?_, rfl, by wtm_at "v_at", by wtm_at "v_at", by wtm_at "v_at", by wtm_at "v_at"⟩
        rw [← hg, Int.fmod_eq_emod_of_nonneg _ hb, gcd_step ha hb]
      · intro c2
        have c2 := of_decide_eq_false c2
        obtain rfl : b = 0 := by lia
        have hga : a = (Int.gcd (bab q.1) q.2 : Int) := by
          rw [← hg, Int.gcd_zero_right]; lia
        have ha0 : a ≠ 0 := by lia
        have hda : Dig 2000 a := by
          rw [hga]
          exact (hFr.dd.of_le (Int.le_of_lt gp) gl).mono (by decide)
        have y1 : Builtin.divisionGoesByPylong q.1 a = false := hda.py
        have y2 : Builtin.divisionGoesByPylong q.2 a = false := hda.py
        wtm_at "v_ret"
        unfold low
        rw [← hga]
        rfl
end

section
open PySem PySem.Spec PySem.Calls PySem.W PyProof PyProof.Rows PySem.SeqAt
variable {w : World} {k : Nat} {D : Dm} {σ : List Val}
/-- a def that hands back a new pool -/
noncomputable def FnPool (w : World) (k : Nat) (f : Addr) (ex : List Addr) (args : List Val) : Prop :=
  ∀ (A : Around) (E : Value → Shared → Prop) (s : Shared) (us : List Value), AOk k A → Base w ⟨.none, ex⟩ s.heap → RepL ⟨.none, ex⟩ s.heap args us → Store ⟨.none, ex⟩ [] s.heap →
    wpAny (model PGm w) A (call (.ref f) us) (fun v s' => ∃ (p : Pool) (a : Addr) (us' : Array Value) (n : Nat), p.Ok ∧ v = .ref a ∧ s.heap.get? a = none ∧ Dm.off ⟨.none, ex⟩ a ∧ s'.heap.get? a = some { cls := .type "list", data := .seq us' n } ∧
      RepL ⟨.none, ex⟩ s'.heap p.vals us'.toList ∧ Step .none s s' ∧ Store ⟨.none, ex⟩ [] s'.heap) E s
noncomputable def PoolΦ : Out → Rho → List Val → Prop
  | .retNew vs, _, σ' => ∃ p : Pool, p.Ok ∧ vs = p.vals ∧ σ' = []
  | _, _, _ => False
theorem FnPool.intro {name qual : Str} {params : Arguments} {body : List Stmt} {scope : Scope} {dV kV doc pm cdv ct oc : Value} {an od : Option Addr} {osl : Array (Option Value)} {f : Addr} {args : List Val} {ps : List Str} {j : Nat} {ex : List Addr}
    (ho : (hd.heap_39 w.params).lookup f = some ⟨oc, od, .func (fnOf name qual params body scope dV kV doc pm an cdv ct), osl⟩) (hcd : codeIn (hd.heap_39 w.params) cdv qual = true)
    (hbind : ∀ us : List Value, us.length = ps.length → bindArgs (fnOf name qual params body scope dV kV doc pm an cdv ct) ⟨us, []⟩ = pure (ps.zip us)) (hl : args.length = ps.length) (hnd : ps.Nodup)
    (hkind : ∀ L, ∀ x ∈ ps, scope.names.lookup x = some .local ∨ (scope.names.lookup x = some .cell ∧ ((cellsFrom (L + 1) scope.names []).lookup x).isSome = true))
    (hco : scope.isCoroutine = false) (hgen : scope.isGenerator = false) (hk : scope.kind = .function)
    (hb : ∀ L, Ex w j (envX qual scope L f cdv (cellsFrom (L + 1) scope.names [])) ⟨.none, ex⟩ (ps.zip args) [] body PoolΦ) : FnPool w (j + 1) f ex args := fun A E s us hA hB ha st => by
  refine enter (k := j + 1) (j := j) ho hcd (fun _ => BindsTo.of_eq (hbind us (ha.length.trans hl))) (ha.length.trans hl) hnd hkind hA (Nat.lt_succ_self j) hB ha st hb (fun fl h' tk o ρ' σ' K r st' hΦ => ?_) hco hgen hk
  cases o with
  | ret v => exact hΦ.elim
  | retNew vs =>
    obtain ⟨p, hp, e1, e2⟩ := hΦ
    subst e1 e2
    cases fl <;> first | exact r.elim | skip
    obtain ⟨a, us', n, e1, e2, e3, e4, e5⟩ := r
    exact ⟨p, a, us', n, hp, e1, e2, e3, e4, e5, ⟨h', tk, rfl, K⟩, st'⟩
  | next => exact hΦ.elim
  | brk => exact hΦ.elim
  | cont => exact hΦ.elim
noncomputable abbrev PoolJ (n : Nat) (ρ : Rho) (σ : List Val) : Prop := (At ρ "figures" .cell) ∧ (∃ m : Int, At ρ "mix" (.int m) ∧ 0 ≤ m ∧ m < 1009) ∧ (∃ r : Int, At ρ "rest" (.int r)) ∧ (∃ l : List Int, σ = l.map .int ∧ l.length ≤ n)
noncomputable abbrev PoolI (n : Nat) (ρ : Rho) (σ : List Val) : Prop := (At ρ "figures" .cell) ∧ (∃ m : Int, At ρ "mix" (.int m) ∧ 0 ≤ m ∧ m < 1009) ∧ (∃ l : List Int, σ = l.map .int ∧ l.length ≤ n)
theorem fn_pool {ex : List Addr} {ns : List Int} (hz : ns.length ≤ 1000) : FnPool w 1 125 ex [.list (ns.map .int)] := by
  wtm_at "v_fill"
  refine FnPool.intro (ps := ["script"]) (by k_is) (by k_is) (us1 fun _ => by wtm_at "v_rfl") rfl (by decide) (fun L x hx => .inl (by revert x; decide)) rfl rfl rfl (fun L => ?_)
  refine Ex.newmut (fun c => ?_) (.inl (by wtm_at "v_rfl")) (by wtm_at "v_rfl")
  wtm_at "v_asg"
  with_reducible refine' Ex.forLJ (xs := (ns.map Val.int).take 40) (fun i ρ' σ' => PoolI 400 ρ' σ') (fun ρ' σ' => PoolI 1000 ρ' σ') ?gxe ?gxh0 (fun i v ρ' σ' hv hJ => ?gxturn) (fun ρ' σ' hJ => ?gxdone) (fun ρ' σ' hK => ?gxrest) ?gxhx ?gxhs
  case gxe =>
    refine' Ev.of (Ev.sliceL ?gxf1 ?gxf2 ?gxf3 ?gxf4 ?gxf5) ?gxf6
    case gxf1 => wtm_at "v_ev"
    case gxf2 => exact Ev.int
    case gxf3 => decide
    case gxf4 => exact map_len (Nat.le_trans hz (by decide))
    case gxf5 => intro _ _; wtm_at "v_rfl"
    case gxf6 => rfl
  case gxhx => wtm_at "v_kd"
  case gxhs => intro _; wtm_at "v_rfl"
  case gxh0 => exact ⟨by wtm_at "v_at", ⟨5, by wtm_at "v_at", by decide, by decide⟩, ⟨[], rfl, Nat.zero_le _⟩⟩
  case gxdone =>
    obtain ⟨f, m, l, e, hl⟩ := hJ
    exact ⟨f, m, l, e, Nat.le_trans hl (by decide)⟩
  case gxrest =>
    obtain ⟨f, ⟨m, r2, m0, m1⟩, l, rfl, hl⟩ := hK
    refine Ex.one (Ex1.retNew (vs := [.cell, .int 0, .int m]) (σ₁ := l.map Val.int) ?gxev (by show 3 ≤ 1000; decide) ?gxpo)
    case gxev => wtm_at "v_evs"
    case gxpo =>
      refine ⟨?_, rfl, ⟨l, 0, m⟩, ⟨hl, m0, m1⟩, rfl, rfl⟩
      rw [List.all_map, List.all_eq_true]
      intro x _
      rfl
  case gxturn =>
    obtain ⟨a, ha, rfl⟩ : ∃ a : Int, a ∈ ns ∧ v = .int a := by
      have := List.mem_of_getElem? hv
      have := List.mem_of_mem_take this
      obtain ⟨a, ha, e⟩ := List.mem_map.mp this
      exact ⟨a, ha, e.symm⟩
    obtain ⟨f, ⟨m, r2, m0, m1⟩, l, rfl, hl⟩ := hJ
    have hm31 : IntMulOk m 31 := by
      refine Dig.mulOk (Dig.mono (j := 4) ?_ (by decide)) (Dig.mono (j := 2) (by unfold Dig; decide) (by decide))
      unfold Dig
      lia
    have hm := mod1009 (m * 31 + a)
    wtm_at "v_asg"
    wtm_at "v_asg"
    wtm_at "v_asg"
    with_reducible refine' Ex.forRJ (n := 60) (fun j ρ' σ' => PoolJ (400 + j) ρ' σ') (fun ρ' σ' => PoolI 460 ρ' σ') (EvR.of bi_range ?gxe4 ?gxr1 ?gxr2 ?gxr3) ?gxr4 ?gxh0 (fun j ρ' σ' hj hJ => ?gxturn2) (fun ρ' σ' hJ => ?gxdone2) (fun ρ' σ' hK => ?gxrest2) ?gxhx ?gxhs
    case gxe4 => exact Ev.int
    case gxr1 => wtm_at "v_rfl"
    case gxr2 => wtm_at "v_rfl"
    case gxr3 => decide
    case gxr4 => decide
    case gxhx => wtm_at "v_kd"
    case gxhs => intro _; wtm_at "v_rfl"
    case gxh0 => exact ⟨by wtm_at "v_at", ⟨_, by wtm_at "v_at", hm.1, hm.2⟩, ⟨_, by wtm_at "v_at"⟩, ⟨l, rfl, hl⟩⟩
    case gxdone2 =>
      obtain ⟨f, m, r, l, e, hl⟩ := hJ
      exact ⟨f, m, l, e, hl⟩
    case gxturn2 =>
      obtain ⟨f, ⟨m, r2, m0, m1⟩, ⟨r, r3⟩, l, rfl, hl⟩ := hJ
      have hzz : (l.map Val.int).length ≤ 1000000 := map_len (by lia)
      have h840 : (840 : Int) ≠ 0 := by decide
      have hpy : Builtin.divisionGoesByPylong r 840 = false := (Dig.mono (j := 3) (by unfold Dig; decide) (by decide) : Dig 2000 840).py
      wtm_at "v_exp"
      wtm_at "v_aug"
      have hI : PoolJ (400 + (j + 1)) ((Str.ofString "rest", .int (r.fdiv 840)) :: (Str.ofString "step", .int (j : Int)) :: ρ') (l.map Val.int ++ [.int (r.fmod 840)]) :=
        ⟨by wtm_at "v_at", ⟨m, by wtm_at "v_at", m0, m1⟩, ⟨_, by wtm_at "v_at"⟩, ⟨l ++ [r.fmod 840], by rw [List.map_append]; rfl, by rw [List.length_append]; simp; lia⟩⟩
      with_reducible refine' Ex.ite ?gxe5 (fun c5 => ?gxa) (fun c5 => ?gxb)
      case gxe5 => wtm_at "v_tst"
      case gxa =>
        refine Ex.brkT ?_
        obtain ⟨f, m, r, l, e, hl⟩ := hI
        exact ⟨f, m, l, e, by lia⟩
      case gxb =>
        with_reducible refine' Ex.fin ?_
        exact Ex.loopEnd hI
    case gxrest2 =>
      obtain ⟨f, ⟨m, r2, m0, m1⟩, l, rfl, hl⟩ := hK
      have hlen : (l.map Val.int).length = l.length := List.length_map ..
      have hl2 : (l.map Val.int).length < 2 ^ 62 := by rw [hlen]; exact Nat.lt_of_le_of_lt hl (by decide)
      with_reducible refine' Ex.ite ?gxe5 (fun c5 => ?gxa) (fun c5 => ?gxb)
      case gxe5 => wtm_at "v_tst"
      case gxa =>
        refine Ex.brkT ?_
        exact ⟨f, ⟨m, r2, m0, m1⟩, l, rfl, Nat.le_trans hl (by decide)⟩
      case gxb =>
        have c5 := of_decide_eq_false c5
        rw [hlen] at c5
        with_reducible refine' Ex.fin ?_
        refine Ex.loopEnd ⟨f, ⟨m, r2, m0, m1⟩, l, rfl, by lia⟩
end

section
open PySem PySem.Spec PySem.Calls PySem.W PyProof PyProof.Rows PySem.SeqAt
/-- signs that a text may hold -/
noncomputable def Okc (x : Str) : Prop := ∀ c ∈ x.cps.toList, c < 0x110000
theorem Okc.all {x : Str} (h : Okc x) : (x.cps.all (· < 0x110000)) = true := by
  rw [Array.all_eq_true_iff_forall_mem]
  intro c hc
  exact decide_eq_true (h c (Array.mem_toList_iff.mpr hc))
theorem Okc.tx {l : List Nat} (h : ∀ c ∈ l, c < 0x110000) : Okc (tx l) := by
  unfold Okc
  rw [tx_list]
  exact h
theorem Okc.app {a b : Str} (ha : Okc a) (hb : Okc b) : Okc (a ++ b) := by
  intro c hc
  have : (a ++ b).cps.toList = a.cps.toList ++ b.cps.toList := by
    show (Str.mk (a.cps ++ b.cps)).cps.toList = _
    simp
  rw [this] at hc
  rcases List.mem_append.mp hc with h | h
  · exact ha c h
  · exact hb c h
theorem Okc.ite {c : Prop} [Decidable c] {a b : Str} (ha : Okc a) (hb : Okc b) : Okc (if c then a else b) := by
  split
  · exact ha
  · exact hb
theorem Okc.lit {s : String} (h : ((Str.ofString s).cps.toList.all (· < 0x110000)) = true) : Okc (Str.ofString s) := fun c hc => of_decide_eq_true (List.all_eq_true.mp h c hc)
theorem dg_ok {n : Nat} : ∀ c ∈ dg n, c < 0x110000 := by
  intro c hc
  have key : ∀ (k q : Nat), ∀ c ∈ ps k q, c < 0x110000 := by
    intro k
    induction k with
    | zero => intro q c hc; cases hc
    | succ k ih =>
      intro q c hc
      rw [ps] at hc
      rcases List.mem_append.mp hc with h | h
      · exact ih _ c h
      · rw [List.mem_singleton.mp h]; lia
  have hp : 0 < (dg n).length := dg_pos n
  have h2 := ps_pad (dg n).length n hp dg_lt
  rw [Nat.sub_self] at h2
  rw [List.replicate_zero, List.nil_append] at h2
  rw [← h2] at hc
  exact key _ _ c hc
theorem rep48 {n : Nat} : ∀ c ∈ List.replicate n 48, c < 0x110000 := fun c hc => by
  rw [List.eq_of_mem_replicate hc]; decide
theorem app_ok {l m : List Nat} (hl : ∀ c ∈ l, c < 0x110000) (hm : ∀ c ∈ m, c < 0x110000) : ∀ c ∈ l ++ m, c < 0x110000 := fun c hc =>
  (List.mem_append.mp hc).elim (hl c) (hm c)
theorem figT_ok {x d figs : Int} (h : PairOk x d) (hf : 1 ≤ figs ∧ figs ≤ 20) : Okc (figT x d figs) := by
  unfold figT
  split
  · rw [tx_mul]; exact Okc.tx rep48
  · rename_i hx
    obtain ⟨h0, _⟩ := figM_dig h hx hf
    unfold dS
    rw [dg_text h0]
    exact Okc.tx dg_ok
theorem padL_ok {n p : Int} : ∀ c ∈ padL n p, c < 0x110000 := app_ok rep48 dg_ok
theorem fixT_ok {x d p : Int} : Okc (fixT x d p) := by
  unfold fixT fixB
  refine Okc.app (Okc.ite (Okc.lit (by decide +kernel)) (Okc.lit (by decide +kernel))) (Okc.ite (Okc.app (Okc.app (Okc.tx fun c hc => padL_ok c (List.mem_of_mem_take hc)) (Okc.lit (by decide +kernel))) (Okc.tx fun c hc => padL_ok c (List.mem_of_mem_drop hc))) (Okc.tx padL_ok))
theorem sciT_ok {x d figs : Int} (h : PairOk x d) (hf : 1 ≤ figs ∧ figs ≤ 20) : Okc (sciT x d figs) := by
  have h1 := figT_ok h hf
  have h2 := (figT_len h hf).1
  obtain ⟨l, hl⟩ := tx_of (figT x d figs)
  unfold sciT
  rw [hl] at h1 h2 ⊢
  unfold Okc at h1
  rw [tx_list] at h1
  rw [tx_len] at h2
  refine Okc.app (Okc.app (Okc.app (Okc.app (Okc.ite (Okc.lit (by decide +kernel)) (Okc.lit (by decide +kernel))) ?_) (Okc.ite (Okc.app (Okc.lit (by decide +kernel)) ?_) (Okc.lit (by decide +kernel)))) (Okc.ite (Okc.lit (by decide +kernel)) (Okc.lit (by decide +kernel)))) ?_
  · rw [tx_item (by decide) (by omega)]
    refine Okc.tx fun c hc => ?_
    rw [List.mem_singleton.mp hc, List.getD, List.getElem?_eq_getElem (by simpa using h2)]
    exact h1 _ (List.getElem_mem _)
  · rw [tx_from (by decide) (by lia)]
    exact Okc.tx fun c hc => h1 c (List.mem_of_mem_drop hc)
  · exact Okc.tx (app_ok rep48 dg_ok)
theorem spT_ok {p : Px} : Okc (spT p) := by
  cases p with
  | none => exact Okc.lit (by decide +kernel)
  | some p => exact Okc.ite (Okc.lit (by decide +kernel)) (Okc.ite (Okc.lit (by decide +kernel)) (Okc.lit (by decide +kernel)))
theorem showT_ok {b : Bool} {n : Int} {p : Px} (hp : p.Ok) (hb : FOk b n) : Okc (showT b n p) := by
  cases p with
  | none => exact spT_ok
  | some p =>
    obtain ⟨x, d⟩ := p
    show Okc (if 0 < d then (if b = true then fixT x d n else sciT x d n) else spT (some (x, d)))
    split
    · rename_i hd
      have hq : PairOk x d := hp.elim id fun z => absurd z.1 (by omega)
      cases b with
      | true => exact fixT_ok
      | false => exact sciT_ok hq hb
    · exact spT_ok
theorem comT_ok {X : List Px} {figs : Int} (hX : XOk X) (hf : 1 ≤ figs ∧ figs ≤ 20) : eqbs ((comT X figs).map Val.str) = true := by
  unfold comT
  have hfo := fN_ok (numP_ok hX) hf
  generalize isFix (numP X) figs = b at *
  generalize fN (numP X) figs = n at *
  induction X with
  | nil => rfl
  | cons p r ih =>
    rw [List.map_cons, List.map_cons]
    simp only [eqbs, Val.eqb, Bool.and_eq_true]
    exact ⟨(showT_ok (hX p (.head _)) hfo).all, ih fun q hq => hX q (.tail _ hq)⟩
end

section
open PySem PySem.Spec PySem.Calls PySem.W PyProof PyProof.Rows PySem.SeqAt
variable {w : World} {k : Nat} {D : Dm} {σ : List Val} {B : Heap} {env : Env} {ρ : Rho}
/-- x = f(..), a new pool -/
theorem Ex.newpool {j : Nat} {ex : List Addr} {x : Str} {px np cp pos : Pos} {fx : Str} {f : Addr} {e : Expr} {vs : List Val} {rest : List Stmt} {Φ : Out → Rho → List Val → Prop}
    (hf : IsFn w fx f) (ha : Evs w k env ⟨.none, ex⟩ ρ [] cp [e] vs []) (hr : FnPool w j f ex vs) (hj : j ≤ k)
    (h : ∀ c p, Pool.Ok p → Ex w k env ⟨some c, ex⟩ ((x, .cell) :: ρ) p.vals rest (FrzΦ Φ))
    (hfx : env.kindOf fx = some .globalImplicit) (he : starEach [e] env = (false, eval e env) :: starEach [] env)
    (hd : (fx == ("__debug__" : Str)) = false)
    (hx : NameOk env x) (hs : swapsWith (.Call (.Name fx np) [e] [] cp) (some (.Name x px)) pos.line env = pure false) :
    Ex w k env ⟨.none, ex⟩ ρ [] (.Assign [.Name x px] (.Call (.Name fx np) [e] [] cp) pos :: rest) Φ := fun A E s B hA S => by
  refine wpAny_execs_cons (wpAny_Assign_Name (Call_ (name_fn S hfx hf hd ?_) (by with_unfolding_all rfl)) hs)
  obtain ⟨m, F⟩ := S.fr
  obtain ⟨X, _⟩ := S.ground
  refine callWith_K X hf.2 (wpAny_mono (ha A _ s B hA S) (fun us s₁ ⟨p, rs, st⟩ => ?_) fun _ _ e => e) he rfl
  have S₁ := S.step p st
  have K₁ := p.keptS S st
  refine ⟨X.keeps fun b o e => p.heap b o (fun q => by rw [S.newD b q] at e; cases e) (F.keep b o e), ?_⟩
  refine wpAny_mono (hr A _ s₁ us (hA.mono hj) S₁.bases rs st) (fun u s₂ hq => ?_) fun _ _ e => e
  obtain ⟨q, c, us', n, hq, rfl, hc0, hcD, g, rl, p₂, st₂⟩ := hq
  have k0 : ∀ b o, s₁.heap.get? b = some o → s₂.heap.get? b = some o := p₂.heap.all
  have hex : c ∉ ex := hcD.2
  -- the figures stand apart from the pool
  have key : RepL ⟨some c, ex⟩ s₂.heap q.vals us'.toList := by
    obtain ⟨u1, r1, e1, ⟨b, vs', rfl, hb, hl, hrl⟩, u2, r2, e2, ⟨t2, rfl⟩, u3, r3, e3, ⟨t3, rfl⟩, e4⟩ := rl
    subst e4
    subst e3
    subst e2
    rw [e1]
    refine RepL.cons (x := .list (q.figs.map .int)) ⟨b, vs', rfl, ⟨fun z => ?_, hb.2⟩, hl, ?_⟩ (RepL.cons (x := .int (q.i : Int)) ⟨t2, rfl⟩ (RepL.single (x := .int q.mix) ⟨t3, rfl⟩))
    · cases z
      obtain ⟨o, ho, _, n', hd'⟩ := hl
      rw [g] at ho
      cases ho
      cases hd'
      have e5 : vs' = [Value.ref c, .int (q.i : Int) t2, .int q.mix t3] := by simpa using e1
      rw [e5] at hrl
      cases hfg : q.figs with
      | nil => rw [hfg] at hrl; cases hrl
      | cons y ys =>
        rw [hfg] at hrl
        obtain ⟨_, _, e6, ⟨t6, e7⟩, _⟩ := hrl
        cases e6
        cases e7
    · refine hrl.sc ?_
      rw [List.all_map, List.all_eq_true]
      intro _ _
      rfl
  have e₂ : ∃ h₂ t₂, s₂ = { s with heap := h₂, toks := t₂ } := by
    obtain ⟨h₁, t₁, rfl, _⟩ := p
    obtain ⟨h₂, t₂, rfl, _⟩ := p₂
    exact ⟨_, _, rfl⟩
  obtain ⟨h₂, t₂, rfl⟩ := e₂
  exact mut_rest (s := s) hA (S₁.takeM k0 hc0 g key) (K₁.trans (.of_all k0)) (K₁.retNone hc0) hex hx (h c q hq) (fun s₃ q => q)
end

section
open PySem PySem.Spec PySem.Calls PySem.W PyProof PyProof.Rows PySem.SeqAt
variable {w : World} {k : Nat} {D : Dm} {σ : List Val} {B : Heap} {env : Env} {ρ : Rho}
noncomputable def LawΦ : Out → Rho → List Val → Prop
  | .ret v, _, _ => v = .bool true
  | _, _, _ => False
/-- the way into the law -/
theorem law_enter {fd : FuncData} {body : List Stmt} {o : Obj} {f : Addr} {A : Around} {E : Value → Shared → Prop} {s : Shared} {us : List Value} {args : List Val} {ps : List Str} {j : Nat} {Q : Value → Shared → Prop}
    (ho : s.heap.get? f = some o) (hdata : o.data = .func fd) (hcd : s.heap.CodeRec fd.code fd.qualname) (hW : WX w s.heap) (hbody : fd.body = .stmts body)
    (hbind : bindArgs fd ⟨us, []⟩ = pure (ps.zip us)) (hclo : fd.closure = []) (hg : fd.globals = mainGlobals) (hbi : fd.builtins = builtinsNs) (hl : us.length = ps.length) (hnd : ps.Nodup)
    (hkind : ∀ L, ∀ x ∈ ps, fd.scope.names.lookup x = some .local ∨ (fd.scope.names.lookup x = some .cell ∧ ((cellsFrom (L + 1) fd.scope.names []).lookup x).isSome = true))
    (hA : AOk k A) (hj : j < k) (ha : RepL ⟨.none, []⟩ s.heap args us)
    (hco : fd.scope.isCoroutine = false) (hgen : fd.scope.isGenerator = false) (hk : fd.scope.kind = .function)
    (hq : ∀ h' tk, (∀ b o, s.heap.get? b = some o → h'.get? b = some o) → Q (.bool true) { s with heap := h', toks := tk })
    (hb : ∀ L, Ex w j (callEnvC fd L f) ⟨.none, []⟩ (ps.zip args) [] body LawΦ) :
    wpAny (model PGm w) A (call (.ref f) us) Q E s := by
  refine enterF (D := ⟨.none, []⟩) (σ := []) ho hdata hcd hbody (BindsTo.of_eq hbind) hclo hg hbi hl hnd hkind hA hj hW (fun b o e => e) (fun c e => (by cases e)) (Nat.le_refl _) ha ⟨fun a q => (by cases q), fun c e => (by cases e)⟩ hb (fun fl h' tk o ρ' σ' K r st' hΦ => ?_) hco hgen hk
  have kp := K.all
  cases o with
  | ret v =>
    cases hΦ
    cases fl with
    | ret u => cases r; exact hq _ _ kp
    | next => exact r.elim
    | brk => exact r.elim
    | cont => exact r.elim
  | next => exact hΦ.elim
  | brk => exact hΦ.elim
  | cont => exact hΦ.elim
  | retNew vs => exact hΦ.elim

/-- the drawn fractions -/
noncomputable def dbls : Pool → List Int → Nat → List Px × Pool
  | p, _, 0 => ([], p)
  | p, cs, n + 1 => ((dbl p cs).1 :: (dbls (dbl p cs).2 cs n).1, (dbls (dbl p cs).2 cs n).2)
theorem dbls_ok {cs : List Int} (hc : CsOk cs) : ∀ (n : Nat) {p : Pool}, p.Ok → XOk (dbls p cs n).1 ∧ (dbls p cs n).2.Ok ∧ (dbls p cs n).1.length = n
  | 0, p, h => ⟨fun q hq => (by cases hq), h, rfl⟩
  | n + 1, p, h => by
    obtain ⟨h1, h2⟩ := dbl_ok h hc
    obtain ⟨h3, h4, h5⟩ := dbls_ok hc n h2
    refine ⟨fun q hq => ?_, h4, by simp [dbls, h5]⟩
    rcases List.mem_cons.mp hq with e | e
    · rw [e]; exact h1
    · exact h3 q e
theorem run_dbl {ρf : Rho} {x : Str} {px : Pos} {elt : Expr} {cs : List Int} (hc : CsOk cs) (he : ∀ (p : Pool) (v : Val), p.Ok → Ev w k env D ([(x, v)] ++ ρf) p.vals elt (dbl p cs).1.val (dbl p cs).2.vals) :
    ∀ (xs : List Val) {p : Pool}, p.Ok → Run w k env D ρf (.Name x px) elt [] xs p.vals ((dbls p cs xs.length).1.map Px.val) (dbls p cs xs.length).2.vals
  | [], p, h => .nil
  | v :: xs, p, h => .take .name .nil (he p v h) (run_dbl hc he xs (dbl_ok h hc).2)
theorem run_dblN {ρf : Rho} {x : Str} {px : Pos} {elt : Expr} {cs : List Int} {xs : List Val} {n : Nat} {p : Pool} (hl : xs.length = n) (hc : CsOk cs) (hp : p.Ok) (he : ∀ (p : Pool) (v : Val), p.Ok → Ev w k env D ([(x, v)] ++ ρf) p.vals elt (dbl p cs).1.val (dbl p cs).2.vals) :
    Run w k env D ρf (.Name x px) elt [] xs p.vals ((dbls p cs n).1.map Px.val) (dbls p cs n).2.vals := hl ▸ run_dbl hc he xs hp
theorem repl_ints {D : Dm} {h : Heap} : ∀ {us : List Value} {ns : List Int}, IntsAre us ns → RepL D h (ns.map .int) us
  | _, _, .nil => rfl
  | _, _, .cons k t r => ⟨_, _, rfl, ⟨t, rfl⟩, repl_ints r⟩
theorem px_nc {q : Px} : q.val.nc = true := by
  cases q with
  | none => rfl
  | some q => rfl
theorem pxs_nc : ∀ {X : List Px}, ncs (pxs X) = true
  | [] => rfl
  | q :: r => by
    have := pxs_nc (X := r)
    simp only [pxs, List.map_cons, ncs, Bool.and_eq_true] at this ⊢
    exact ⟨px_nc, this⟩
theorem sgn_eq {x : Int} : ((if decide (0 < x) = true then 1 else 0) - (if decide (x < 0) = true then 1 else 0) : Int) = sgn x := by
  unfold sgn
  rw [lt_iff, lt_iff]
  split <;> split <;> split <;> (try split) <;> lia
noncomputable def menuG : List Int := [7, 1, 2, 3, 5, 15]
theorem menuG_ok : ∀ i, i < 6 → 1 ≤ menuG.getD i 0 ∧ menuG.getD i 0 ≤ 20 := by decide
theorem menuG_get : ∀ i, i < 6 → (menuG.map Val.int)[i]? = some (.int (menuG.getD i 0)) := by
  intro i hi
  rw [List.getElem?_map, List.getD, List.getElem?_eq_getElem (show i < menuG.length from hi)]; rfl
noncomputable def csOf (ns : List Int) : List Int := [99999, 5, 123456789] ++ (ns.take 3).map fun a => (bab a).fmod (10 ^ 16)
theorem csOf_ok (ns : List Int) : CsOk (csOf ns) := by
  unfold csOf
  refine ⟨by rw [List.length_append]; simp; lia, ?_, fun a ha => ?_⟩
  · rw [List.length_append, List.length_map, List.length_take]; simp; lia
  · rcases List.mem_append.mp ha with h | h
    · have key : ∀ a ∈ ([99999, 5, 123456789] : List Int), Dig 16 a := by unfold Dig; decide
      exact key a h
    · obtain ⟨b, _, rfl⟩ := List.mem_map.mp h
      rw [Int.fmod_eq_emod_of_nonneg _ (by decide)]
      unfold Dig
      lia
end

section
open PySem PySem.Spec PySem.Calls PySem.W PyProof PyProof.Rows PySem.SeqAt
set_option maxHeartbeats 8000000 in
theorem law_holds : PySem.Challenge.rw_no0500_01.Holds := hd (by
  k_fill
  intro w s₀ s₁ mg mb G Y fa o pm cd doc dV kV ho hd hcd hD hmg hg args vals as hpre hlay hrd hwl hlo
  have KX := kIn_of Y
  have X := (Ground.X G).1
  have V := (Ground.X G).2
  refine Ground.open G ?_
  intro T B D TE TW
  wrow_args hpre hlay hrd hwl hlo
  have he := Dflts.none hD rfl
  subst he
  have he := Dflts.noKw hD
  subst he
  rename IntsAre _ _ => hI
  rename s₁.heap.IsList _ _ => hL
  rename ¬ _ < _ => hn
  rename List Int => ns
  refine law_enter (k := 10) (j := 9) (ps := ["script"]) (args := [.list (ns.map .int)]) ho hd hcd ⟨KX, _, _, _, T⟩ rfl rfl rfl rfl rfl rfl (by decide) ?gxkind ?gxroom (by decide) ?gxargs rfl rfl rfl ?gxpost (fun L => ?gxwalk)
  case gxkind => exact fun L x hx => .inl (by rw [List.mem_singleton.mp hx]; wtm_at "v_rfl")
  case gxroom => exact ⟨rfl, by decide +kernel, by decide +kernel⟩
  case gxargs => exact ⟨_, _, rfl, ⟨_, _, rfl, ⟨fun q => (by cases q), fun q => (by cases q)⟩, hL, repl_ints hI⟩, rfl⟩
  case gxpost =>
    intro h' tk kp
    refine GoodW.toG ⟨.inl ⟨_, _, _, rfl, (fun _ => rfl), .bool true, by with_unfolding_all rfl, fun _ => ⟨List.nodup_nil, fun a ha => (by cases ha)⟩⟩, kp, rfl, hg⟩
  case gxwalk =>
    have hn : ns.length ≤ 63 := by omega
    clear ho hd hcd T KX X V hL hI G Y
    refine Ex.newpool (vs := [.list (ns.map .int)]) is_l_pool ?gxp1 (fn_pool (by omega)) (by decide) (fun c p hp => ?gxrest) ?gxp2 ?gxp3 ?gxp4 ?gxp5 ?gxp6
    case gxp1 => wtm_at "v_evs"
    case gxp2 => wtm_at "v_rfl"
    case gxp3 => wtm_at "v_rfl"
    case gxp4 => decide
    case gxp5 => wtm_at "v_kd"
    case gxp6 => wtm_at "v_rfl"
    case gxrest =>
      -- cells
      have hc := csOf_ok ns
      have e0 : (.list ((csOf ns).map .int) : Val) = .list ([.int 99999, .int 5, .int 123456789] ++ ((ns.take 3).map fun a => (bab a).fmod (10 ^ 16)).map .int) := rfl
      with_reducible refine' Ex.assign (v := .list ((csOf ns).map .int)) (Ev.of (Ev.bin (a := .list [.int 99999, .int 5, .int 123456789]) (b := .list (((ns.take 3).map fun a => (bab a).fmod (10 ^ 16)).map .int)) ?gxc1 ?gxc2 (Bin.addL ?gxc3)) e0.symm) ?_ ?gxkx ?gxks
      case gxkx => wtm_at "v_kd"
      case gxks => wtm_at "v_rfl"
      case gxc1 => 
        refine' Ev.of ?gxc4 ?gxc5
        case gxc4 => wtm_at "v_ev"
        case gxc5 => rfl
      case gxc3 => rw [List.length_map, List.length_map, List.length_take]; simp; lia
      case gxc2 =>
        refine' Ev.comp (xs := (ns.take 3).map Val.int) (σ₁ := p.vals) (ρf := []) (cl := []) (Source.list (Ev.of (Ev.sliceL ?gxf1 ?gxf2 ?gxf3 ?gxf4 ?gxf5) ?gxf6)) ?gxok4 CompSee.nil ?gxhz4 (fun C a => ?gxrun4)
        case gxf1 => wtm_at "v_ev"
        case gxf2 => exact Ev.int
        case gxf3 => decide
        case gxf4 => exact map_len (by omega)
        case gxf5 => intro _ _; wtm_at "v_rfl"
        case gxf6 => rw [List.map_take]; rfl
        case gxhz4 => rw [List.length_map, List.length_take]; lia
        case gxok4 => exact ⟨by with_unfolding_all decide, by wtm_at "v_rfl", by with_unfolding_all decide, by wtm_at "v_rfl", sub_nil, (fun C y hy => by rw [List.mem_singleton.mp hy]; wtm_at "v_rfl"), fun _ => by wtm_at "v_rfl"⟩
        case gxrun4 =>
          rw [List.map_map]
          have w16 := powOk (n := 16) (by decide)
          have h16 : (10 : Int) ^ (16 : Int).toNat ≠ 0 := by decide
          refine run_map Val.int _ (ns.take 3) (fun b hb => ?gxel)
          case gxel =>
            refine' Ev.of ?gxe5 ?gxe6
            case gxe5 => wtm_at "v_ev"
            case gxe6 => rfl
      -- digits
      generalize csOf ns = cs at hc
      have hk1 : Fn w 1 132 ⟨some c, []⟩ [.cell, .int 6] p.vals (.int (p.pick 6)) p.next.vals := fn_pick hp (by decide)
      have hb6 := Pool.pick_bound (p := p) (b := 6) (by decide)
      have g6 := menuG_get (p.pick 6).toNat (tlt hb6.1 hb6.2)
      have hf := menuG_ok (p.pick 6).toNat (tlt hb6.1 hb6.2)
      with_reducible refine' Ex.assign (Ev.itemL (xs := menuG.map Val.int) ?gxf1 ?gxf2 ?gxf3 ?gxf4 ?gxf5 ?gxf6) ?_ ?gxkx ?gxks
      case gxkx => wtm_at "v_kd"
      case gxks => wtm_at "v_rfl"
      case gxf1 =>
        refine' Ev.of ?gxf7 ?gxf8
        case gxf7 => wtm_at "v_ev"
        case gxf8 => rfl
      case gxf2 => wtm_at "v_ev"
      case gxf3 => exact hb6.1
      case gxf4 => exact g6
      case gxf5 => show 6 < 2 ^ 62; decide
      case gxf6 => intro _ _; wtm_at "v_rfl"
      generalize menuG.getD (p.pick 6).toNat 0 = figs at hf
      have h1 := hp.next
      generalize p.next = p1 at h1
      -- pairs
      have hk2 : Fn w 1 132 ⟨some c, []⟩ [.cell, .int 4] p1.vals (.int (p1.pick 4)) p1.next.vals := fn_pick h1 (by decide)
      have hb4 := Pool.pick_bound (p := p1) (b := 4) (by decide)
      have h2 := h1.next
      obtain ⟨n, hn1, hn2⟩ : ∃ n : Nat, 1 + p1.pick 4 = (n : Int) ∧ n ≤ 4 := ⟨(1 + p1.pick 4).toNat, by lia, by lia⟩
      obtain ⟨d1, d2, d3⟩ := dbls_ok hc n h2
      refine' Ex.assignComp (xs := rangeV n) (ys := pxs (dbls p1.next cs n).1) (σ₁ := p1.next.vals) (σ₂ := (dbls p1.next cs n).2.vals) (ρf := [(Str.ofString "cells", .list (cs.map .int)), (Str.ofString "pool", .cell)]) (cl := [(Str.ofString "pool", L + 1), (Str.ofString "cells", L + 2)]) (Source.range (EvR.of bi_range (Ev.of ?gxe4 ?gxe5) ?gxr1 ?gxr2 ?gxr3) ?gxr4) ?gxok4 (CompSee.cons (CompSee.cons CompSee.nil ?gxs1 ?gxs2 ?gxs3 ?gxs4) ?gxs5 ?gxs6 ?gxs7 ?gxs8) ?gxhz4 (fun C a => ?gxrun4) ?_ ?gxhx ?gxhsw
      case gxe4 => wtm_at "v_ev"
      case gxe5 => rw [hn1]
      case gxr1 => wtm_at "v_rfl"
      case gxr2 => wtm_at "v_rfl"
      case gxr3 => decide
      case gxr4 => lia
      case gxhz4 => rw [rangeV_len]; omega
      case gxhx => wtm_at "v_kd"
      case gxhsw => wtm_at "v_rfl"
      case gxs1 => wtm_at "v_rfl"
      case gxs2 => wtm_at "v_rfl"
      case gxs3 => intro C; wtm_at "v_rfl"
      case gxs4 => wtm_at "v_rfl"
      case gxs5 => wtm_at "v_rfl"
      case gxs6 => wtm_at "v_rfl"
      case gxs7 => intro C; wtm_at "v_rfl"
      case gxs8 => wtm_at "v_rfl"
      case gxok4 => exact ⟨by with_unfolding_all decide, by wtm_at "v_rfl", by with_unfolding_all decide, by wtm_at "v_rfl", sub_cons (sub_cons sub_nil (by wtm_at "v_rfl")) (by wtm_at "v_rfl"), (fun C y hy => by rw [List.mem_singleton.mp hy]; wtm_at "v_rfl"), fun _ => by wtm_at "v_rfl"⟩
      case gxrun4 =>
        refine run_dblN rangeV_len hc h2 (fun q v hq => ?gxel)
        case gxel =>
          have hd2 : Fn w 2 193 ⟨some c, [a]⟩ [.cell, .list (cs.map .int)] q.vals (dbl q cs).1.val (dbl q cs).2.vals := fn_double hq hc
          wtm_at "v_ev"
      -- each fraction
      have hXl : (dbls p1.next cs n).1.length ≤ 1000 := by lia
      generalize (dbls p1.next cs n).1 = X at d1 hXl
      generalize (dbls p1.next cs n).2.vals = V
      with_reducible refine' Ex.forL (xs := pxs X) (fun i ρ' σ' => σ' = V ∧ At ρ' "pairs" (.list (pxs X)) ∧ At ρ' "digits" (.int figs)) ?gxzlp ?gxzh0 (fun i v ρ' σ' hv hJ => ?gxzturn) (fun ρ' σ' hJ => ?gxzdone) ?gxzhx ?gxzhs
      case gxzlp => wtm_at "v_ev"
      case gxzhx => wtm_at "v_kd"
      case gxzhs => intro _; wtm_at "v_rfl"
      case gxzh0 => exact ⟨rfl, by wtm_at "v_at", by wtm_at "v_at"⟩
      case gxzdone =>
        obtain ⟨rfl, r1, r2⟩ := hJ
        have hc1 : Fn w 6 110 ⟨some c, []⟩ [.list (pxs X), .int figs] σ' (.list ((comT X figs).map Val.str)) σ' := (fn_common d1 hXl hf).lift (by show (ncs (pxs X) && _) = true; rw [pxs_nc]; rfl)
        have hc2 : Fn w 5 186 ⟨some c, []⟩ [.list (pxs X), .int figs] σ' (.list ((comT X figs).map Val.str)) σ' := (fn_ltexts d1 hXl hf).lift (by show (ncs (pxs X) && _) = true; rw [pxs_nc]; rfl)
        have hdp : (Val.list ((comT X figs).map Val.str)).dat.depth ≤ 64 := by
          have := dats_strs (xs := comT X figs)
          simp only [Val.dat, PyData.depth]
          lia
        have heq : (Val.list ((comT X figs).map Val.str)).eqb = true := by
          simp only [Val.eqb]
          exact comT_ok d1 hf
        with_reducible refine' Ex.ret (Ev.cmp1 ?gxza1 ?gxza2 (Cmp1.eq heq hdp) ?gxza3 ?gxza4) ?gxzpo
        case gxza1 => wtm_at "v_ev"
        case gxza2 => wtm_at "v_ev"
        case gxza3 => decide
        case gxza4 => wtm_at "v_rfl"
        case gxzpo => exact ⟨(fun e => by cases e), rfl, rfl⟩
      case gxzturn =>
        obtain ⟨rfl, r1, r2⟩ := hJ
        rw [List.getElem?_map] at hv
        cases hq : X[i]? with
        | none => rw [hq] at hv; cases hv
        | some q =>
          rw [hq] at hv
          have hv : v = q.val := by cases hv; rfl
          subst hv
          have hqX : q.Ok := d1 q (List.mem_of_getElem? hq)
          with_reducible refine' Ex.ifJ (c := q.num) (fun ρ σ'' => σ'' = σ' ∧ At ρ "pair" q.val ∧ At ρ "pairs" (.list (pxs X)) ∧ At ρ "digits" (.int figs)) ?gxzlq (fun c1 => ?gxza) (fun c1 => ?gxzb) ?gxzr
          case gxzlq =>
            cases q with
            | none =>
              refine Tst.bop (Alls.andF ?gxzq)
              case gxzq =>
                show Tst w _ _ _ _ _ _ (!Val.isNone (Px.val .none)) _
                wtm_at "v_tst"
            | some q =>
              obtain ⟨x, d⟩ := q
              refine' Tst.of (b := !(Val.isNone (Px.val (some (x, d)))) && decide (0 < d)) ?gxzt2 ?gxze2
              case gxzt2 => wtm_at "v_tst"
              case gxze2 => rfl
          case gxzb => exact Ex.join ⟨rfl, by wtm_at "v_at", by wtm_at "v_at", by wtm_at "v_at"⟩
          case gxza =>
            cases q with
            | none => cases c1
            | some q =>
              obtain ⟨x, d⟩ := q
              have hd : 0 < d := of_decide_eq_true c1
              have hpq : PairOk x d := hqX.elim id fun z => absurd z.1 (by lia)
              have hf1 : Fn w 3 153 ⟨some c, []⟩ [Px.val (some (x, d)), .int figs] σ' _ σ' := fn_shape hpq hf
              have hf2 : Fn w 3 56 ⟨some c, []⟩ [Px.val (some (x, d)), .int figs] σ' _ σ' := fn_significant hpq hf
              have hf3 : Fn w 4 70 ⟨some c, []⟩ [Px.val (some (x, d)), .int figs] σ' _ σ' := fn_needed hpq hf
              have hT := figT_len hpq hf
              have hf4 : Fn w 1 160 ⟨some c, []⟩ [.str (figT x d figs)] σ' _ σ' := fn_count hT.1 hT.2
              wtm_at "v_up"
              wtm_at "v_asg"
              rw [sgn_eq]
              have heq : (Val.tup [.int (sgn x), .str (figT x d figs), .int (figE x d figs)]).eqb = true := by
                simp only [Val.eqb, eqbs, Bool.and_true, Bool.true_and]
                exact (figT_ok hpq hf).all
              with_reducible refine' Ex.ite (c := false) (Tst.bop (Alls.orF (Tst.cmp1 ?gxza1 ?gxza2 (Cmp1.ne heq ?gxza0) ?gxza3 ?gxza4) (Alls.orF (Tst.of ?gxza5 ?gxza6) Alls.orN))) (fun c => ?gxzx1) (fun c => ?gxzx2)
              case gxza1 => wtm_at "v_ev"
              case gxza2 => wtm_at "v_ev"
              case gxza0 => simp [Val.dat, dats, PyData.depth, PyData.depthAll]
              case gxza3 => decide
              case gxza4 => wtm_at "v_rfl"
              case gxza5 => wtm_at "v_tst"
              case gxza6 => rw [decide_eq_true rfl]; rfl
              case gxzx1 => cases c
              case gxzx2 =>
                with_reducible refine' Ex.fin ?_
                exact Ex.join ⟨rfl, by wtm_at "v_at", by wtm_at "v_at", by wtm_at "v_at"⟩
          case gxzr =>
            rintro ρ' σ'' ⟨rfl, r1, r2, r3⟩
            have hf5 : Fn w 7 118 ⟨some c, []⟩ [q.val, .int figs] σ'' (.str (numT q figs)) σ'' := (fn_number hqX hf).lift (by show (q.val.nc && _) = true; rw [px_nc]; rfl)
            have hf6 : Fn w 5 186 ⟨some c, []⟩ [.list [q.val], .int figs] σ'' (.list [.str (numT q figs)]) σ'' := (fn_ltexts (X := [q]) (fun z hz => by rw [List.mem_singleton.mp hz]; exact hqX) (Nat.le_add_left 1 999) hf).lift (by show ((q.val.nc && true) && _) = true; rw [px_nc]; rfl)
            with_reducible refine' Ex.ite (c := false) (Tst.of ?gxza5 ?gxza6) (fun c => ?gxzx1) (fun c => ?gxzx2)
            case gxza5 => wtm_at "v_tst"
            case gxza6 => rw [decide_eq_true rfl]; rfl
            case gxzx1 => cases c
            case gxzx2 =>
              with_reducible refine' Ex.fin ?_
              exact Ex.loopEnd ⟨rfl, r2, r3⟩)
end

end Mine

theorem PySem.Challenge.cw_no0500_01_holds : PySem.Challenge.rw_no0500_01.Holds :=
  Mine.law_holds
