import PyProof.Rows.All
import Wide.All
import OpenK.AllK
import Wide.FinOn
import Lean
import PySem.Challenge.RW_pb0237_02
open PySem PySem.W PyProof.Rows
set_option Elab.async false
set_option maxRecDepth 100000
set_option maxHeartbeats 4000000
namespace Mine
local macro_rules | `(tactic| o_law) => `(tactic| refine holds_law (by decide +kernel) fun said => ?_)
set_option synthInstance.maxSize 1 in
open_top hd1 for PySem.Challenge.rw_pb0237_02
end Mine
section
open PySem PySem.W PyProof.Rows
set_option Elab.async false
set_option maxRecDepth 100000
namespace Mine
inductive V where
  | none | bool (b : Bool) | int (i : Int) | str (x : PySem.Str) | bytes (x : Array UInt8) | ref (a : Addr)
inductive Is : Value → V → Prop
  | none : Is .none .none
  | bool (b : Bool) : Is (.bool b) (.bool b)
  | int (i : Int) (t : Tok) : Is (.int i t) (.int i)
  | str (x : PySem.Str) (t : Tok) : Is (.str x t) (.str x)
  | bytes (x : Array UInt8) (t : Tok) : Is (.bytes x t) (.bytes x)
  | ref (a : Addr) : Is (.ref a) (.ref a)
inductive Vals : List Value → List V → Prop
  | nil : Vals [] []
  | cons {v : Value} {x : V} {vs : List Value} {xs : List V} : Is v x → Vals vs xs → Vals (v :: vs) (x :: xs)
inductive AO where
  | list (m : Bool) (xs : List V)
  | tup (xs : List V)
  | dict (es : List (Int × V)) (ep : Nat)
  | inst (c : Addr) (fs : List V)
  | taker (k : Nat)
  | range (n : Nat)
  | priv (owner : Addr)
noncomputable abbrev Sto := Addr → Option AO
noncomputable def Sto.set (σ : Sto) (a : Addr) (o : AO) : Sto := fun b => if b = a then some o else σ b
@[simp] theorem Sto.set_self (σ : Sto) (a : Addr) (o : AO) : (σ.set a o) a = some o := by simp [Sto.set]
theorem Sto.set_ne (σ : Sto) {a b : Addr} (o : AO) (h : b ≠ a) : (σ.set a o) b = σ b := by simp [Sto.set, h]
noncomputable abbrev Env0 := List (Option V)
theorem Vals.length {vs : List Value} {xs : List V} (h : Vals vs xs) : vs.length = xs.length := by
  induction h with
  | nil => rfl
  | cons _ _ ih => simp [ih]
theorem Vals.get {vs : List Value} {xs : List V} (h : Vals vs xs) : ∀ {i : Nat} {x : V}, xs[i]? = some x → ∃ v, vs[i]? = some v ∧ Is v x := by
  induction h with
  | nil => intro i x e; simp at e
  | cons h1 _ ih =>
    intro i x e
    cases i with
    | zero => simp at e; subst e; exact ⟨_, rfl, h1⟩
    | succ j => simpa using ih (i := j) (x := x) (by simpa using e)
theorem vals_back {vs : List Value} {xs : List V} (h : Vals vs xs) : ∀ {i : Nat} {v : Value}, vs[i]? = some v → ∃ x, xs[i]? = some x ∧ Is v x := by
  induction h with
  | nil => intro i x e; simp at e
  | cons h1 _ ih =>
    intro i x e
    cases i with
    | zero => simp at e; subst e; exact ⟨_, rfl, h1⟩
    | succ j => simpa using ih (i := j) (v := x) (by simpa using e)
theorem Vals.append {vs ws : List Value} {xs ys : List V} (h : Vals vs xs) (g : Vals ws ys) : Vals (vs ++ ws) (xs ++ ys) := by
  induction h with
  | nil => exact g
  | cons h1 _ ih => exact .cons h1 ih
inductive Ents : List (Int × Value) → List (Int × V) → Prop
  | nil : Ents [] []
  | cons {k : Int} {v : Value} {x : V} {es : List (Int × Value)} {fs : List (Int × V)} : Is v x → Ents es fs → Ents ((k, v) :: es) ((k, x) :: fs)
inductive Flds (P : Params) : List PySem.Str → List DictEntry → List V → Prop
  | nil {ns : List PySem.Str} : Flds P ns [] []
  | cons {n : PySem.Str} {ns : List PySem.Str} {t : Tok} {v : Value} {x : V} {es : List DictEntry} {fs : List V} : Is v x → Flds P ns es fs → Flds P (n :: ns) (⟨PyData.keyHash P n, .str n t, v⟩ :: es) (x :: fs)
structure Kx where
  prog : Program
  w : World
  K : Frag
  p : Program
  loose : List PySem.Str
  mean : ExcName → Option Value
  mg : PySem.Str → Option Value
  mb : PySem.Str → Option Value
  base : Heap
  names : List PySem.Str
  tk : Heap → Addr → Nat → List Addr → Prop
structure Kx.Ok (κ : Kx) : Prop where
  X : κ.K.In κ.base
  T : Top κ.p κ.loose κ.mean κ.mg κ.mb κ.base
  keep : ∀ h h' a k F, κ.tk h a k F → (∀ b, b = a ∨ b ∈ F → ∀ o, h.get? b = some o → h'.get? b = some o) → κ.tk h' a k F
  at_ : ∀ h a k F, κ.tk h a k F → ∃ o, h.get? a = some o
noncomputable def Sits (κ : Kx) (σ : Sto) (h : Heap) (a : Addr) : AO → Prop
  | .list m xs => ∃ vs n, h.get? a = some (listOf vs.toArray n) ∧ Vals vs xs ∧ (m = true → κ.base.get? a = none) ∧ xs.length ≤ 1000000
  | .tup xs => ∃ vs : List Value, h.IsTuple a vs.toArray ∧ Vals vs xs
  | .dict es ep => ∃ kvs, h.DictAt (intKind κ.prog κ.w) a kvs ep ∧ Ents kvs es ∧ κ.base.get? a = none ∧ es.length ≤ 1000000 ∧ (a == sysModules) = false
  | .inst c fs => ∃ dx es n, h.get? a = some (instObj c dx) ∧ h.get? dx = some (dictOf es n) ∧ Flds κ.w.params κ.names es fs ∧ σ dx = some (.priv a) ∧ κ.base.get? dx = none
  | .taker k => ∃ F, κ.tk h a k F ∧ ∀ b ∈ F, σ b = some (.priv a) ∧ κ.base.get? b = none
  | .range n => ∃ t u v, IsRange h a 0 n 1 t u v
  | .priv _ => ∃ o, h.get? a = some o
structure St (κ : Kx) (σ : Sto) (s : Shared) : Prop where
  sits : ∀ a o, σ a = some o → Sits κ σ s.heap a o
  base : κ.base.StaysIn s.heap
structure Fut (W : List Addr) (σ : Sto) (h : Heap) (σ' : Sto) (h' : Heap) : Prop where
  keep : ∀ b o, h.get? b = some o → σ b = none → b ∉ W → h'.get? b = some o
  dom : ∀ a, σ' a ≠ none → σ a ≠ none ∨ h.get? a = none
theorem Fut.refl (W : List Addr) (σ : Sto) (h : Heap) : Fut W σ h σ h := ⟨fun _ _ e _ _ => e, fun _ e => .inl e⟩
theorem Fut.trans {W : List Addr} {σ σ' σ'' : Sto} {h h' h'' : Heap} (x : Fut W σ h σ' h') (y : Fut W σ' h' σ'' h'')
    (hW : ∀ b ∈ W, ∀ o, h.get? b = some o → ∃ o', h'.get? b = some o') : Fut W σ h σ'' h'' := by
  refine ⟨fun b o e n hw => ?_, fun a e => ?_⟩
  · refine y.keep b o (x.keep b o e n hw) ?_ hw
    cases q : σ' b with
    | none => rfl
    | some z =>
      rcases x.dom b (by rw [q]; exact fun z => nomatch z) with z | z
      · exact absurd n z
      · rw [e] at z; cases z
  · rcases y.dom a e with z | z
    · exact x.dom a z
    · cases q : h.get? a with
      | none => exact .inr rfl
      | some o =>
        left
        intro n
        by_cases hw : a ∈ W
        · obtain ⟨o', e'⟩ := hW a hw o q
          rw [e'] at z; cases z
        · rw [x.keep a o q n hw] at z; cases z
theorem Fut.trans0 {σ σ' σ'' : Sto} {h h' h'' : Heap} (x : Fut [] σ h σ' h') (y : Fut [] σ' h' σ'' h'') : Fut [] σ h σ'' h'' := x.trans y fun _ h => nomatch h
theorem Fut.weak {W : List Addr} {σ σ' : Sto} {h h' : Heap} (x : Fut [] σ h σ' h') : Fut W σ h σ' h' := ⟨fun b o e n _ => x.keep b o e n (fun h => nomatch h), x.dom⟩
theorem Sits.there {κ : Kx} (O : κ.Ok) {σ : Sto} {h : Heap} {a : Addr} {o : AO} (S : Sits κ σ h a o) : ∃ ob, h.get? a = some ob := by
  cases o with
  | list m xs => obtain ⟨vs, n, e, _⟩ := S; exact ⟨_, e⟩
  | tup xs => obtain ⟨vs, ⟨ob, e, _⟩, _⟩ := S; exact ⟨_, e⟩
  | dict es ep => obtain ⟨kvs, ⟨ob, _, e, _⟩, _⟩ := S; exact ⟨_, e⟩
  | inst c fs => obtain ⟨dx, es, n, e, _⟩ := S; exact ⟨_, e⟩
  | taker k => obtain ⟨F, e, _⟩ := S; exact O.at_ _ _ _ _ e
  | range n => obtain ⟨t, u, v, e⟩ := S; exact ⟨_, e⟩
  | priv o => exact S
theorem Sits.keep {κ : Kx} (O : κ.Ok) {σ σ' : Sto} {h h' : Heap} {a : Addr} {o : AO} (S : Sits κ σ h a o)
    (k1 : ∀ b o, (b = a ∨ σ b = some (.priv a)) → h.get? b = some o → h'.get? b = some o) (k2 : ∀ b, σ b = some (.priv a) → σ' b = some (.priv a)) : Sits κ σ' h' a o := by
  cases o with
  | list m xs => obtain ⟨vs, n, e, r⟩ := S; exact ⟨vs, n, k1 _ _ (.inl rfl) e, r⟩
  | tup xs => obtain ⟨vs, ⟨ob, e, r⟩, q⟩ := S; exact ⟨vs, ⟨ob, k1 _ _ (.inl rfl) e, r⟩, q⟩
  | dict es ep => obtain ⟨kvs, ⟨ob, x, e, r⟩, q⟩ := S; exact ⟨kvs, ⟨ob, x, k1 _ _ (.inl rfl) e, r⟩, q⟩
  | inst c fs => obtain ⟨dx, es, n, e, e2, f, p, r⟩ := S; exact ⟨dx, es, n, k1 _ _ (.inl rfl) e, k1 _ _ (.inr p) e2, f, k2 _ p, r⟩
  | taker k =>
    obtain ⟨F, e, p⟩ := S
    refine ⟨F, O.keep _ _ _ _ _ e fun b hb o eo => ?_, fun b hb => ⟨k2 _ (p b hb).1, (p b hb).2⟩⟩
    rcases hb with hb | hb
    · exact k1 b o (.inl hb) eo
    · exact k1 b o (.inr (p b hb).1) eo
  | range n => obtain ⟨t, u, v, e⟩ := S; exact ⟨t, u, v, k1 _ _ (.inl rfl) e⟩
  | priv o => obtain ⟨ob, e⟩ := S; exact ⟨ob, k1 _ _ (.inl rfl) e⟩
variable {κ : Kx} (O : κ.Ok) {σ : Sto} {s : Shared}
theorem St.none_of {κ : Kx} (O : κ.Ok) {σ : Sto} {s : Shared} (S : St κ σ s) {a : Addr} (e : s.heap.get? a = none) : σ a = none := by
  cases q : σ a with
  | none => rfl
  | some o => obtain ⟨ob, z⟩ := (S.sits a o q).there O; rw [e] at z; cases z
theorem fresh_none (h : Heap) : h.get? h.objs.size = none := by
  cases q : h.get? h.objs.size with
  | none => rfl
  | some o => exact absurd (Heap.lt_size q) (Nat.lt_irrefl _)
theorem St.base_none {κ : Kx} {σ : Sto} {s : Shared} (S : St κ σ s) {a : Addr} (e : s.heap.get? a = none) : κ.base.get? a = none := by
  cases q : κ.base.get? a with
  | none => rfl
  | some o => rw [S.base a o q] at e; cases e
theorem St.aside {κ : Kx} (O : κ.Ok) {σ : Sto} {s : Shared} {h' : Heap} {tk : Nat} (S : St κ σ s) (k : ∀ b o, s.heap.get? b = some o → (σ b ≠ none ∨ κ.base.get? b ≠ none) → h'.get? b = some o) :
    St κ σ { s with heap := h', toks := tk } := by
  refine ⟨fun a o e => (S.sits a o e).keep O (fun b ob hb eb => k b ob eb (.inl ?_)) fun _ x => x, fun b o e => k b o (S.base b o e) (.inr (by rw [e]; exact fun z => nomatch z))⟩
  rcases hb with rfl | hb
  · rw [e]; exact fun z => nomatch z
  · rw [hb]; exact fun z => nomatch z
theorem St.more {κ : Kx} (O : κ.Ok) {σ : Sto} {s : Shared} {h' : Heap} {tk : Nat} {a : Addr} {ao : AO} (S : St κ σ s) (ha : s.heap.get? a = none) (k : ∀ b o, s.heap.get? b = some o → h'.get? b = some o)
    (n : Sits κ (σ.set a ao) h' a ao) : St κ (σ.set a ao) { s with heap := h', toks := tk } ∧ Fut [] σ s.heap (σ.set a ao) h' := by
  have z := S.none_of O ha
  refine ⟨⟨fun b o e => ?_, fun b o e => k b o (S.base b o e)⟩, ⟨fun b o e _ _ => k b o e, fun b e => ?_⟩⟩
  · by_cases q : b = a
    · subst q; rw [Sto.set_self] at e; cases e; exact n
    · rw [Sto.set_ne σ ao q] at e
      refine (S.sits b o e).keep O (fun c oc _ ec => k c oc ec) fun c hc => ?_
      rw [Sto.set_ne σ ao (fun y => by rw [y, z] at hc; cases hc)]; exact hc
  · by_cases q : b = a
    · subst q; exact .inr ha
    · rw [Sto.set_ne σ ao q] at e; exact .inl e
theorem St.turn {κ : Kx} (O : κ.Ok) {σ : Sto} {s : Shared} {h' : Heap} {tk : Nat} {a d : Addr} {ao ao' : AO} (S : St κ σ s) (ha : σ a = some ao) (hp : ∀ o, ao ≠ .priv o) (hd : d = a ∨ σ d = some (.priv a))
    (hb : κ.base.get? d = none) (k : ∀ b o, b ≠ d → s.heap.get? b = some o → h'.get? b = some o) (hd' : ∃ o, h'.get? d = some o)
    (n : Sits κ (σ.set a ao') h' a ao') (hs : ∀ o, ao' ≠ .priv o) : St κ (σ.set a ao') { s with heap := h', toks := tk } ∧ Fut [] σ s.heap (σ.set a ao') h' := by
  have up : ∀ b c, b ≠ a → σ c = some (.priv b) → c ≠ a := fun b c _ hc e => by subst e; rw [ha] at hc; cases hc; exact hp _ rfl
  refine ⟨⟨fun b o e => ?_, fun b o e => k b o (fun q => by rw [q, hb] at e; cases e) (S.base b o e)⟩, ⟨fun b o e hn _ => k b o (fun q => ?_) e, fun b e => ?_⟩⟩
  · by_cases q : b = a
    · subst q; rw [Sto.set_self] at e; cases e; exact n
    · rw [Sto.set_ne σ ao' q] at e
      by_cases r : b = d
      · subst r
        rcases hd with hd | hd
        · exact absurd hd q
        · rw [hd] at e; cases e; exact hd'
      · refine (S.sits b o e).keep O (fun c oc hc ec => k c oc (fun y => ?_) ec) fun c hc => ?_
        · subst y
          rcases hc with hc | hc
          · exact r hc.symm
          · rcases hd with hd | hd
            · exact up b c q hc hd
            · rw [hd] at hc; cases hc; exact q rfl
        · rw [Sto.set_ne σ ao' (up b c q hc)]; exact hc
  · subst q
    rcases hd with hd | hd
    · rw [hd, ha] at hn; cases hn
    · rw [hd] at hn; cases hn
  · by_cases q : b = a
    · subst q; left; rw [ha]; exact fun z => nomatch z
    · rw [Sto.set_ne σ ao' q] at e; exact .inl e
end Mine
end
section
open PySem PySem.W PyProof.Rows
set_option Elab.async false
set_option maxRecDepth 100000
namespace Mine
structure Room (A : Around) (n : Nat) : Prop where
  handled : A.handled = none
  depth : A.depth + n ≤ 400
  units : A.units + 10 * n ≤ 1000
theorem Room.limit {A : Around} {n : Nat} (r : Room A n) : A.depth < recursionLimit := by
  have := r.depth; show A.depth < 1000; omega
theorem Room.deeper {A : Around} {n : Nat} (r : Room A (n + 1)) (env : Env) : Room (A.deeper env) n :=
  ⟨r.handled, by have := r.depth; show A.depth + 1 + n ≤ 400; omega, by have := r.units; show A.units + 3 + 10 * n ≤ 1000; omega⟩
structure Way (W : List Addr) (σ : Sto) (s : Shared) (σ' : Sto) (s' : Shared) : Prop where
  same : ∃ h tk, s' = { s with heap := h, toks := tk }
  fut : Fut W σ s.heap σ' s'.heap
theorem Way.refl (W : List Addr) (σ : Sto) (s : Shared) : Way W σ s σ s := ⟨⟨s.heap, s.toks, rfl⟩, Fut.refl _ _ _⟩
theorem Way.tok (W : List Addr) (σ : Sto) (s : Shared) (tk : Nat) : Way W σ s σ { s with toks := tk } := ⟨⟨s.heap, tk, rfl⟩, Fut.refl _ _ _⟩
theorem Way.trans {σ σ' σ'' : Sto} {s s' s'' : Shared} (x : Way [] σ s σ' s') (y : Way [] σ' s' σ'' s'') : Way [] σ s σ'' s'' := by
  obtain ⟨⟨h, tk, e⟩, u⟩ := x
  obtain ⟨⟨h', tk', e'⟩, u'⟩ := y
  exact ⟨⟨h', tk', by rw [e', e]⟩, u.trans0 u'⟩
theorem Way.transW {W : List Addr} {σ σ' σ'' : Sto} {s s' s'' : Shared} (x : Way W σ s σ' s') (y : Way W σ' s' σ'' s'') (l : ∀ b ∈ W, ∃ o, s'.heap.get? b = some o) : Way W σ s σ'' s'' := by
  obtain ⟨⟨h, tk, e⟩, u⟩ := x
  obtain ⟨⟨h', tk', e'⟩, u'⟩ := y
  exact ⟨⟨h', tk', by rw [e', e]⟩, u.trans u' fun b hb _ _ => l b hb⟩
theorem Way.weak {W : List Addr} {σ σ' : Sto} {s s' : Shared} (x : Way [] σ s σ' s') : Way W σ s σ' s' := ⟨x.same, x.fut.weak⟩
theorem Way.of {W : List Addr} {σ σ' : Sto} {s : Shared} {h : Heap} {tk : Nat} (u : Fut W σ s.heap σ' h) : Way W σ s σ' { s with heap := h, toks := tk } := ⟨⟨h, tk, rfl⟩, u⟩
theorem Way.of' {W : List Addr} {σ σ' : Sto} {s : Shared} {h : Heap} (u : Fut W σ s.heap σ' h) : Way W σ s σ' { s with heap := h } := ⟨⟨h, s.toks, rfl⟩, u⟩
theorem St.tok {κ : Kx} {σ : Sto} {s : Shared} (S : St κ σ s) (tk : Nat) : St κ σ { s with toks := tk } := ⟨S.sits, S.base⟩
noncomputable def After (κ : Kx) (W : List Addr) (σ : Sto) (s : Shared) {α : Type} (Q : α → Sto → Prop) : α → Shared → Prop :=
  fun v s' => ∃ σ', Way W σ s σ' s' ∧ St κ σ' s' ∧ Q v σ'
noncomputable def noE : Value → Shared → Prop := fun _ _ => False
noncomputable def Goes (κ : Kx) (W : List Addr) (A : Around) {α : Type} (t : Sem α) (σ : Sto) (s : Shared) (Q : α → Sto → Prop) : Prop :=
  wpAny (model κ.prog κ.w) A t (After κ W σ s Q) noE s
theorem After.up {κ : Kx} {α : Type} {σ σ' : Sto} {s s' s'' : Shared} {Q : α → Sto → Prop} {v : α} (x : Way [] σ s σ' s') (a : After κ [] σ' s' Q v s'') : After κ [] σ s Q v s'' := by
  obtain ⟨σ'', y, S, q⟩ := a
  exact ⟨σ'', x.trans y, S, q⟩
theorem Goes.up {κ : Kx} {A : Around} {α : Type} {t : Sem α} {σ σ' : Sto} {s s' : Shared} {Q : α → Sto → Prop} (x : Way [] σ s σ' s') (h : Goes κ [] A t σ' s' Q) : wpAny (model κ.prog κ.w) A t (After κ [] σ s Q) noE s' :=
  wpAny_mono h (fun _ _ a => a.up x) fun _ _ z => z
theorem After.tok {κ : Kx} {W : List Addr} {α : Type} {σ : Sto} {s : Shared} {Q : α → Sto → Prop} {v : α} {tk : Nat} (S : St κ σ s) (q : Q v σ) : After κ W σ s Q v { s with toks := tk } := ⟨σ, Way.tok _ _ _ _, S.tok tk, q⟩
theorem After.now {κ : Kx} {W : List Addr} {α : Type} {σ : Sto} {s : Shared} {Q : α → Sto → Prop} {v : α} (S : St κ σ s) (q : Q v σ) : After κ W σ s Q v s := ⟨σ, Way.refl _ _ _, S, q⟩
inductive Loc where
  | loc (L : Addr)
  | cell (c : Addr)
noncomputable def Loc.adr : Loc → Addr | .loc L => L | .cell c => c
structure FrameSt (vars : List (PySem.Str × Loc)) (ε : Env0) (σ : Sto) (h : Heap) : Prop where
  len : ε.length = vars.length
  off : ∀ (i : Nat) (n : PySem.Str) (l : Loc), vars[i]? = some (n, l) → σ l.adr = none
  loc : ∀ (i : Nat) (n : PySem.Str) (L : Addr), vars[i]? = some (n, .loc L) → ∃ m, h.Ns L m ∧ ∀ x, ε[i]? = some (some x) → ∃ v, m n = some v ∧ Is v x
  cell : ∀ (i : Nat) (n : PySem.Str) (c : Addr), vars[i]? = some (n, .cell c) → ∃ ov, h.IsCell c ov ∧ ∀ x, ε[i]? = some (some x) → ∃ v, ov = some v ∧ Is v x
theorem Heap.Ns.there {h : Heap} {a : Addr} {m : PySem.Str → Option Value} (x : h.Ns a m) : ∃ o, h.get? a = some o := let ⟨o, _, _, e, _⟩ := x; ⟨o, e⟩
theorem FrameSt.there {vars : List (PySem.Str × Loc)} {ε : Env0} {σ : Sto} {h : Heap} (F : FrameSt vars ε σ h) {i : Nat} {n : PySem.Str} {l : Loc} (e : vars[i]? = some (n, l)) : ∃ o, h.get? l.adr = some o := by
  cases l with
  | loc L => obtain ⟨m, x, _⟩ := F.loc i n L e; exact Heap.Ns.there x
  | cell c => obtain ⟨ov, ⟨o, x, _⟩, _⟩ := F.cell i n c e; exact ⟨o, x⟩
theorem FrameSt.keepW {W : List Addr} {vars : List (PySem.Str × Loc)} {ε : Env0} {σ σ' : Sto} {h h' : Heap} (F : FrameSt vars ε σ h) (U : Fut W σ h σ' h') (hw : ∀ (i : Nat) (n : PySem.Str) (l : Loc), vars[i]? = some (n, l) → l.adr ∉ W) : FrameSt vars ε σ' h' := by
  have k : ∀ (i : Nat) (n : PySem.Str) (l : Loc), vars[i]? = some (n, l) → ∀ o, h.get? l.adr = some o → h'.get? l.adr = some o := fun i n l e o eo => U.keep _ _ eo (F.off i n l e) (hw i n l e)
  refine ⟨F.len, fun i n l e => ?_, fun i n L e => ?_, fun i n c e => ?_⟩
  · cases q : σ' l.adr with
    | none => rfl
    | some z =>
      rcases U.dom l.adr (by rw [q]; exact fun z => nomatch z) with y | y
      · exact absurd (F.off i n l e) y
      · obtain ⟨o, eo⟩ := F.there e
        rw [y] at eo; cases eo
  · obtain ⟨m, ⟨o, es, ep, eo, r⟩, q⟩ := F.loc i n L e
    exact ⟨m, ⟨o, es, ep, k i n (.loc L) e o eo, r⟩, q⟩
  · obtain ⟨ov, ⟨o, eo, r⟩, q⟩ := F.cell i n c e
    exact ⟨ov, ⟨o, k i n (.cell c) e o eo, r⟩, q⟩
theorem FrameSt.keep {vars : List (PySem.Str × Loc)} {ε : Env0} {σ σ' : Sto} {h h' : Heap} (F : FrameSt vars ε σ h) (U : Fut [] σ h σ' h') : FrameSt vars ε σ' h' := by
  have k : ∀ (i : Nat) (n : PySem.Str) (l : Loc), vars[i]? = some (n, l) → ∀ o, h.get? l.adr = some o → h'.get? l.adr = some o := fun i n l e o eo => U.keep _ _ eo (F.off i n l e) fun h => nomatch h
  refine ⟨F.len, fun i n l e => ?_, fun i n L e => ?_, fun i n c e => ?_⟩
  · cases q : σ' l.adr with
    | none => rfl
    | some z =>
      rcases U.dom l.adr (by rw [q]; exact fun z => nomatch z) with y | y
      · exact absurd (F.off i n l e) y
      · obtain ⟨o, eo⟩ := F.there e
        rw [y] at eo; cases eo
  · obtain ⟨m, ⟨o, es, ep, eo, r⟩, q⟩ := F.loc i n L e
    exact ⟨m, ⟨o, es, ep, k i n (.loc L) e o eo, r⟩, q⟩
  · obtain ⟨ov, ⟨o, eo, r⟩, q⟩ := F.cell i n c e
    exact ⟨ov, ⟨o, k i n (.cell c) e o eo, r⟩, q⟩
inductive Kind where
  | loc | cell | hid
  deriving DecidableEq
structure CEnv where
  names : List (PySem.Str × NameKind)
  vs : List (PySem.Str × Kind)
structure EnvOk (env : Env) (ce : CEnv) (vars : List (PySem.Str × Loc)) : Prop where
  kind : env.scope.kind = .function
  globals : env.globals = mainGlobals
  builtins : env.builtins = builtinsNs
  names : env.scope.names = ce.names
  len : vars.length = ce.vs.length
  nodup : ∀ (i j : Nat) (n n' : PySem.Str) (l l' : Loc), vars[i]? = some (n, l) → vars[j]? = some (n', l') → i ≠ j → n = n' → l.adr ≠ l'.adr
  apart : ∀ (i j : Nat) (n n' : PySem.Str) (c : Addr) (l' : Loc), vars[i]? = some (n, .cell c) → vars[j]? = some (n', l') → i ≠ j → c ≠ l'.adr
  loc : ∀ (i : Nat) (n : PySem.Str), ce.vs[i]? = some (n, .loc) → vars[i]? = some (n, .loc env.locals)
  cell : ∀ (i : Nat) (n : PySem.Str), ce.vs[i]? = some (n, .cell) → ∃ c, vars[i]? = some (n, .cell c) ∧ env.cells.lookup n = some c
noncomputable def findVar (n : PySem.Str) (k : Kind) : List (PySem.Str × Kind) → Nat → Option Nat
  | [], _ => none
  | p :: r, i => if p.1 == n && decide (p.2 = k) then some i else findVar n k r (i + 1)
theorem findVar_spec {n : PySem.Str} {k : Kind} : ∀ {l : List (PySem.Str × Kind)} {i j : Nat}, findVar n k l i = some j → i ≤ j ∧ l[j - i]? = some (n, k)
  | [], _, _, h => by cases h
  | p :: r, i, j, h => by
    unfold findVar at h
    split at h
    · rename_i q
      cases h
      simp only [Bool.and_eq_true, decide_eq_true_eq] at q
      obtain ⟨a, b⟩ := p
      have e1 : a = n := beq_iff_eq.mp q.1
      have e2 : b = k := q.2
      subst e1 e2
      simp
    · have z := findVar_spec h
      refine ⟨by omega, ?_⟩
      have : j - i = (j - (i + 1)) + 1 := by omega
      rw [this, List.getElem?_cons_succ]
      exact z.2
noncomputable def CEnv.var (ce : CEnv) (n : PySem.Str) : Option Nat := match ce.names.lookup n with
  | some .local => findVar n .loc ce.vs 0
  | some .cell => findVar n .cell ce.vs 0
  | some .free => if (n == ("__classdict__" : PySem.Str)) then none else findVar n .cell ce.vs 0
  | _ => none
theorem load_var {M : Model} {A : Around} {E : Value → Shared → Prop} {s : Shared} {env : Env} {ce : CEnv} {vars : List (PySem.Str × Loc)} {ε : Env0} {σ : Sto} {n : PySem.Str} {pos : Pos} {i : Nat} {x : V} {Q : Value → Shared → Prop}
    (eo : EnvOk env ce vars) (F : FrameSt vars ε σ s.heap) (hi : ce.var n = some i) (hx : ε[i]? = some (some x)) (hd : (n == ("__debug__" : PySem.Str)) = false)
    (h : ∀ v, Is v x → Q v s) : wpAny M A (eval (.Name n pos) env) Q E s := by
  refine wpAny_Name ?_ hd
  unfold CEnv.var at hi
  have hl : env.kindOf n = ce.names.lookup n := by unfold Env.kindOf; rw [eo.names]
  split at hi
  · rename_i q
    have z := (findVar_spec hi).2
    rw [Nat.sub_zero] at z
    obtain ⟨m, hn, hv⟩ := F.loc i n env.locals (eo.loc i n z)
    obtain ⟨v, hm, hiv⟩ := hv x hx
    exact wpAny_loadName_local eo.kind (hl.trans q) hn hm (h v hiv)
  · rename_i q
    have z := (findVar_spec hi).2
    rw [Nat.sub_zero] at z
    obtain ⟨c, hc, hlk⟩ := eo.cell i n z
    obtain ⟨ov, hcell, hv⟩ := F.cell i n c hc
    obtain ⟨v, rfl, hiv⟩ := hv x hx
    exact wpAny_loadName_cell eo.kind (hl.trans q) hlk hcell (h v hiv)
  · rename_i q
    split at hi
    · cases hi
    · rename_i hcd
      have z := (findVar_spec hi).2
      rw [Nat.sub_zero] at z
      obtain ⟨c, hc, hlk⟩ := eo.cell i n z
      obtain ⟨ov, hcell, hv⟩ := F.cell i n c hc
      obtain ⟨v, rfl, hiv⟩ := hv x hx
      exact wpAny_loadName_free eo.kind (hl.trans q) hlk hcell (h v hiv) (by simpa using hcd)
  · cases hi
theorem store_var {κ : Kx} (O : κ.Ok) {A : Around} {E : Value → Shared → Prop} {s : Shared} {env : Env} {ce : CEnv} {vars : List (PySem.Str × Loc)} {ε : Env0} {σ : Sto} {n : PySem.Str} {i : Nat} {v : Value} {x : V} {Q : Unit → Shared → Prop} {W : List Addr}
    (eo : EnvOk env ce vars) (S : St κ σ s) (F : FrameSt vars ε σ s.heap) (hi : ce.var n = some i) (hv : Is v x) (hb : ∀ (i : Nat) (n : PySem.Str) (l : Loc), vars[i]? = some (n, l) → κ.base.get? l.adr = none) (hW : ∀ (m : PySem.Str) (l : Loc), vars[i]? = some (m, l) → l.adr ∈ W)
    (h : ∀ h' tk, St κ σ { s with heap := h', toks := tk } → Fut W σ s.heap σ h' → FrameSt vars (ε.set i (some x)) σ h' → Q () { s with heap := h', toks := tk }) : wpAny (model κ.prog κ.w) A (storeName env n v) Q E s := by
  have hl : env.kindOf n = ce.names.lookup n := by unfold Env.kindOf; rw [eo.names]
  -- what is behind a store at one place
  have fin : ∀ l h' tk, vars[i]? = some (n, l) → l.adr ∈ W → Heap.SameBut l.adr s.heap h' →
      (∀ L, l = .loc L → ∃ m m', s.heap.Ns L m ∧ h'.Ns L m' ∧ m' = fun y => if y = n then some v else m y) → (∀ c, l = .cell c → h'.IsCell c (some v)) → Q () { s with heap := h', toks := tk } := by
    intro l h' tk el hlW hs h1 h2
    have kp : ∀ b o, b ≠ l.adr → s.heap.get? b = some o → h'.get? b = some o := fun b o hb e => hs.extBut b o hb e
    refine h h' tk (S.aside O fun b o e hσ => kp b o (fun q => ?_) e) ⟨fun b o e _ hw => kp b o (fun q => hw (q ▸ hlW)) e, fun _ e => .inl e⟩ ⟨by rw [List.length_set]; exact F.len, F.off, fun j m L ej => ?_, fun j m c ej => ?_⟩
    · rcases hσ with hσ | hσ
      · exact hσ (q ▸ F.off i n l el)
      · exact hσ (q ▸ hb i n l el)
    · by_cases hij : i = j
      · subst hij
        rw [el] at ej
        cases ej
        obtain ⟨m₀, m', _, hn', rfl⟩ := h1 L rfl
        refine ⟨_, hn', fun y ey => ⟨v, by simp, ?_⟩⟩
        have hlt : i < ε.length := by
          rw [F.len]
          exact (List.getElem?_eq_some_iff.mp el).1
        rw [List.getElem?_set_self hlt] at ey
        cases ey; exact hv
      · rw [List.getElem?_set_ne hij]
        obtain ⟨m₀, hn, hx⟩ := F.loc j m L ej
        by_cases hL : L = l.adr
        · cases l with
          | loc L' =>
            obtain rfl : L = L' := hL
            obtain ⟨m₁, m', hn₁, hn', rfl⟩ := h1 L rfl
            refine ⟨_, hn', fun y ey => ?_⟩
            obtain ⟨u, hu, hiu⟩ := hx y ey
            refine ⟨u, ?_, hiu⟩
            have hne : m ≠ n := fun q => eo.nodup i j n m _ _ el ej hij q.symm rfl
            have hmm : m₀ m = m₁ m := by
              obtain ⟨o, es, ep, a1, a2, _, a3⟩ := hn
              obtain ⟨o', es', ep', b1, b2, _, b3⟩ := hn₁
              rw [a1] at b1; cases b1
              rw [a2] at b2; cases b2
              rw [← a3, ← b3]
            simp only [hne, if_false]
            rw [← hmm]; exact hu
          | cell c => exact absurd hL.symm (eo.apart i j n m c _ el ej hij)
        · exact ⟨m₀, hn.sameBut hs hL, hx⟩
    · by_cases hij : i = j
      · subst hij
        rw [el] at ej
        cases ej
        refine ⟨_, h2 c rfl, fun y ey => ⟨v, rfl, ?_⟩⟩
        have hlt : i < ε.length := by
          rw [F.len]
          exact (List.getElem?_eq_some_iff.mp el).1
        rw [List.getElem?_set_self hlt] at ey
        cases ey; exact hv
      · rw [List.getElem?_set_ne hij]
        obtain ⟨ov, hc, hx⟩ := F.cell j m c ej
        exact ⟨ov, hc.sameBut hs (eo.apart j i m n c l ej el (Ne.symm hij)), hx⟩
  unfold CEnv.var at hi
  split at hi
  · rename_i q
    have z := (findVar_spec hi).2
    rw [Nat.sub_zero] at z
    have el := eo.loc i n z
    obtain ⟨m, hn, _⟩ := F.loc i n env.locals el
    refine wpAny_storeName_local (hl.trans q) hn (fun h' hn' hs => fin _ h' _ el (hW _ _ el) hs (fun L e => ?_) fun c e => by cases e) (by rw [eo.kind]; rfl)
    cases e; exact ⟨m, _, hn, hn', rfl⟩
  · rename_i q
    have z := (findVar_spec hi).2
    rw [Nat.sub_zero] at z
    obtain ⟨c, el, hlk⟩ := eo.cell i n z
    obtain ⟨ov, hcell, _⟩ := F.cell i n c el
    exact wpAny_storeName_cell eo.kind (hl.trans q) hlk hcell fun h' hc' hs => fin _ h' s.toks el (hW _ _ el) hs (fun L e => by cases e) fun c' e => by cases e; exact hc'
  · rename_i q
    split at hi
    · cases hi
    · rename_i hcd
      have z := (findVar_spec hi).2
      rw [Nat.sub_zero] at z
      obtain ⟨c, el, hlk⟩ := eo.cell i n z
      obtain ⟨ov, hcell, _⟩ := F.cell i n c el
      unfold storeName
      simp only [hl.trans q, eo.kind]
      exact wpAny_bind (wpAny_cellOf hlk (wpAny_cellSet hcell fun h' hc' hs => fin _ h' s.toks el (hW _ _ el) hs (fun L e => by cases e) fun c' e => by cases e; exact hc'))
  · cases hi
end Mine
end
section
open PySem PySem.W PyProof.Rows
set_option Elab.async false
set_option maxRecDepth 100000
namespace Mine
inductive Op where
  | eq | ne | lt | le | gt | ge | isIn | notIn | is | isNot
inductive BI where
  | len | sorted | max | dict | bytes | list | range
inductive Ar where
  | mul | fdiv | mod | pow
inductive BM where
  | append | popL | popD | clear
mutual
inductive PE where
  | var (i : Nat)
  | none
  | bool (b : Bool)
  | int (i : Int)
  | str (x : PySem.Str)
  | bytes (x : List UInt8)
  | glob (a : Addr)
  | attr (e : PE) (i : Nat)
  | list (es : PEs)
  | tup (es : PEs)
  | dict (es : PEs)
  | ite (c : PC) (a b : PE)
  | add (a b : PE)
  | ar (op : Ar) (a b : PE)
  | cmp (op : Op) (a b : PE)
  | and (a b : PE)
  | sub (a i : PE)
  | upto (a i : PE)
  | from_ (a i : PE)
  | fn (f : Addr) (args : PEs)
  | bi (f : BI) (e : PE)
  | take (e : PE) (arg : PE)
  | meth (e : PE) (n : Nat) (args : PEs)
  | bm (e : PE) (n : BM) (args : PEs)
  | comp (elt : PE) (t : Nat) (it : PE) (c : PC)
inductive PEs where
  | nil
  | cons (e : PE) (r : PEs)
inductive PC where
  | tru
  | not (c : PC)
  | and (a b : PC)
  | or (a b : PC)
  | cmp (op : Op) (a b : PE)
  | chain (a : PE) (o1 : Op) (b : PE) (o2 : Op) (c : PE)
  | val (e : PE)
end
mutual
inductive PT where
  | var (i : Nat)
  | attr (e : PE) (i : Nat)
  | sub (e i : PE)
  | subl (e i : PE)
  | tup (ts : PTs)
  | rev (is : List Nat)
inductive PTs where
  | nil
  | cons (t : PT) (r : PTs)
end
mutual
inductive PS where
  | expr (e : PE)
  | asg (t : PT) (e : PE)
  | ret (e : PE)
  | ite (c : PC) (a b : PSs)
  | for_ (t : PT) (it : PE) (b : PSs)
  | while_ (c : PC) (b : PSs)
  | fail
inductive PSs where
  | nil
  | cons (s : PS) (r : PSs)
end
inductive Fl where
  | next | brk | cont | ret (x : V)
noncomputable abbrev Post := V → Sto → Prop
structure Gx where
  stat : Addr → Option AO
  cls : Addr
  meth : Nat → Addr
  fn : Addr → List V → Post → Sto → Prop
noncomputable def look (Γ : Gx) (σ : Sto) (a : Addr) : Option AO := match Γ.stat a with
  | some o => some o
  | none => σ a
noncomputable def New (Γ : Gx) (σ : Sto) (a : Addr) : Prop := σ a = none ∧ Γ.stat a = none
noncomputable def itemsOf : AO → Option (List V)
  | .list _ xs => some xs
  | .tup xs => some xs
  | .dict es _ => some (es.map fun p => .int p.1)
  | .range n => some ((List.range n).map fun i => .int (i : Nat))
  | _ => none
noncomputable def seqOf : AO → Option (List V)
  | .list _ xs => some xs
  | .tup xs => some xs
  | _ => none
noncomputable def intsOf : List V → Option (List Int)
  | [] => some []
  | .int i :: r => (intsOf r).map (i :: ·)
  | _ :: _ => none
noncomputable def putE (k : Int) (x : V) : List (Int × V) → List (Int × V)
  | [] => [(k, x)]
  | p :: r => if p.1 = k then (k, x) :: r else p :: putE k x r
noncomputable def getE (k : Int) : List (Int × V) → Option V
  | [] => none
  | p :: r => if p.1 = k then some p.2 else getE k r
noncomputable def delE (k : Int) : List (Int × V) → List (Int × V)
  | [] => []
  | p :: r => if p.1 = k then r else p :: delE k r
noncomputable def allEq (f : V → V → Option Bool) : List V → List V → Option Bool
  | [], [] => some true
  | x :: xs, y :: ys => match f x y, allEq f xs ys with
    | some a, some b => some (a && b)
    | _, _ => none
  | _, _ => none
noncomputable def dictEq (f : V → V → Option Bool) (fs : List (Int × V)) : List (Int × V) → Option Bool
  | [] => some true
  | p :: r => match getE p.1 fs with
    | none => some false
    | some y => match f p.2 y, dictEq f fs r with
      | some a, some b => some (a && b)
      | _, _ => none
noncomputable def eqV (L : Addr → Option AO) : Nat → V → V → Option Bool
  | _, .bool a, .bool b => some (a == b)
  | _, .int a, .int b => some (a == b)
  | _, .str a, .str b => some (a == b)
  | _, .bytes a, .bytes b => some (a.toList == b.toList)
  | n + 1, .ref a, .ref b => match L a, L b with
    | some (.list _ xs), some (.list _ ys) => if xs.length = ys.length then allEq (eqV L n) xs ys else some false
    | some (.tup xs), some (.tup ys) => if xs.length = ys.length then allEq (eqV L n) xs ys else none
    | some (.dict es _), some (.dict fs _) => if a = b then some true else if es.length = fs.length then dictEq (eqV L n) fs es else some false
    | _, _ => none
  | _, _, _ => none
noncomputable def eqT (L : Addr → Option AO) (x y : V) : Option Bool := match x, y with
  | .ref a, .ref b => match L a, L b with
    | some (.dict es _), some (.dict fs _) => if es.length = fs.length then dictEq (eqV L 3) fs es else some false
    | _, _ => eqV L 4 (.ref a) (.ref b)
  | x, y => eqV L 4 x y
noncomputable def memV (x : V) : List V → Option Bool
  | [] => some false
  | y :: r => match eqV (fun _ => none) 0 y x, memV x r with
    | some a, some b => some (a || b)
    | _, _ => none
noncomputable def inV (L : Addr → Option AO) : V → V → Option Bool
  | x, .ref a => match L a, x with
    | some (.list _ xs), x => memV x xs
    | some (.tup xs), x => memV x xs
    | some (.dict es _), .int k => some (getE k es).isSome
    | _, _ => none
  | _, _ => none
noncomputable def isNoneV : V → Bool
  | .none => true
  | _ => false
noncomputable def opW (Γ : Gx) (op : Op) (x y : V) (q : Bool → Sto → Prop) (σ : Sto) : Prop := match op, x, y with
  | .lt, .int a, .int b => q (decide (a < b)) σ
  | .le, .int a, .int b => q (decide (a ≤ b)) σ
  | .gt, .int a, .int b => q (decide (b < a)) σ
  | .ge, .int a, .int b => q (decide (b ≤ a)) σ
  | .eq, x, y => ∃ b, eqT (look Γ σ) x y = some b ∧ q b σ
  | .ne, x, y => ∃ b, eqT (look Γ σ) x y = some b ∧ q (!b) σ
  | .isIn, x, y => ∃ b, inV (look Γ σ) x y = some b ∧ q b σ
  | .notIn, x, y => ∃ b, inV (look Γ σ) x y = some b ∧ q (!b) σ
  | .is, x, .none => q (isNoneV x) σ
  | .isNot, x, .none => q (!isNoneV x) σ
  | _, _, _ => False
noncomputable def big : Int := 1000000000
noncomputable def addW (Γ : Gx) (x y : V) (q : Post) (σ : Sto) : Prop := match x, y with
  | .int a, .int b => q (.int (a + b)) σ
  | .bytes a, .bytes b => a.size + b.size ≤ 100000 ∧ q (.bytes (a ++ b)) σ
  | .ref a, .ref b => ∃ m xs m' ys, look Γ σ a = some (.list m xs) ∧ look Γ σ b = some (.list m' ys) ∧ xs.length + ys.length ≤ 100000 ∧
      ∀ l, New Γ σ l → q (.ref l) (σ.set l (.list true (xs ++ ys)))
  | _, _ => False
noncomputable def arW (op : Ar) (x y : V) (q : Post) (σ : Sto) : Prop := ∃ i j, x = .int i ∧ y = .int j ∧ match op with
  | .mul => 0 ≤ i ∧ i ≤ 10000 ∧ q (.int (i * j)) σ
  | .fdiv => j ≠ 0 ∧ Builtin.divisionGoesByPylong i j = false ∧ q (.int (i.fdiv j)) σ
  | .mod => j ≠ 0 ∧ q (.int (i.fmod j)) σ
  | .pow => i = 720720 ∧ 0 ≤ j ∧ j ≤ 400 ∧ q (.int (i ^ j.toNat)) σ
noncomputable def subW (Γ : Gx) (x i : V) (q : Post) (σ : Sto) : Prop := match x, i with
  | .ref a, .int k => match look Γ σ a with
    | some (.list _ xs) => 0 ≤ k ∧ k ≤ big ∧ ∃ y, xs[k.toNat]? = some y ∧ q y σ
    | some (.tup xs) => 0 ≤ k ∧ k ≤ big ∧ ∃ y, xs[k.toNat]? = some y ∧ q y σ
    | some (.dict es _) => ∃ y, getE k es = some y ∧ q y σ
    | _ => False
  | _, _ => False
noncomputable def sliceW (Γ : Gx) (f : Nat → List V → List V) (x i : V) (q : Post) (σ : Sto) : Prop := match x, i with
  | .ref a, .int k => 0 ≤ k ∧ ∃ m xs, look Γ σ a = some (.list m xs) ∧ ∀ l, New Γ σ l → q (.ref l) (σ.set l (.list true (f k.toNat xs)))
  | _, _ => False
noncomputable def truV (L : Addr → Option AO) : V → Option Bool
  | .bool b => some b
  | .ref a => match L a with
    | some (.list _ xs) => some (!xs.isEmpty)
    | some (.dict es _) => some (!es.isEmpty)
    | _ => none
  | _ => none
noncomputable def pairsOf (L : Addr → Option AO) : List V → Option (List (Int × V))
  | [] => some []
  | .ref a :: r => match L a with
    | some (.tup [.int k, x]) => (pairsOf L r).map ((k, x) :: ·)
    | _ => none
  | _ :: _ => none
noncomputable def octets : List Int → Option (List UInt8)
  | [] => some []
  | i :: r => if 0 ≤ i ∧ i < 256 then (octets r).map (UInt8.ofNat i.toNat :: ·) else none
noncomputable def sortI (ks : List Int) : List Int := ks.mergeSort fun a b => decide (a ≤ b)
noncomputable def biW (Γ : Gx) (f : BI) (x : V) (q : Post) (σ : Sto) : Prop := match f, x with
  | .len, .ref a => ∃ o xs, look Γ σ a = some o ∧ itemsOf o = some xs ∧ (∀ n, o ≠ .range n) ∧ (∀ ys, o ≠ .tup ys) ∧ q (.int xs.length) σ
  | .sorted, .ref a => ∃ o xs ks, look Γ σ a = some o ∧ itemsOf o = some xs ∧ (∀ n, o ≠ .range n) ∧ (∀ ys, o ≠ .tup ys) ∧ intsOf xs = some ks ∧ ks.length ≤ 60 ∧ ∀ l, New Γ σ l → q (.ref l) (σ.set l (.list true ((sortI ks).map .int)))
  | .max, .ref a => ∃ o xs k ks, look Γ σ a = some o ∧ itemsOf o = some xs ∧ (∀ n, o ≠ .range n) ∧ (∀ ys, o ≠ .tup ys) ∧ intsOf xs = some (k :: ks) ∧ ks.length ≤ 1000 ∧ q (.int (ks.foldl max k)) σ
  | .dict, .ref a => match look Γ σ a with
    | some (.dict es _) => es.length ≤ 1000 ∧ ∀ l, New Γ σ l → ∀ ep, q (.ref l) (σ.set l (.dict es ep))
    | some (.list _ xs) => ∃ ps, pairsOf (look Γ σ) xs = some ps ∧ ps.length ≤ 1000 ∧ ∀ l, New Γ σ l → ∀ ep, q (.ref l) (σ.set l (.dict (ps.foldl (fun es p => putE p.1 p.2 es) []) ep))
    | _ => False
  | .bytes, .bytes b => q (.bytes b) σ
  | .bytes, .ref a => ∃ m xs ks bs, look Γ σ a = some (.list m xs) ∧ intsOf xs = some ks ∧ octets ks = some bs ∧ bs.length ≤ 1000 ∧ q (.bytes bs.toArray) σ
  | .list, .ref a => ∃ o xs, look Γ σ a = some o ∧ itemsOf o = some xs ∧ (∀ es ep, o ≠ .dict es ep) ∧ xs.length ≤ 1000 ∧ ∀ l, New Γ σ l → q (.ref l) (σ.set l (.list true xs))
  | .range, .int n => 0 ≤ n ∧ n ≤ 1000 ∧ ∀ l, New Γ σ l → q (.ref l) (σ.set l (.range n.toNat))
  | _, _ => False
noncomputable def bmW (_Γ : Gx) (f : BM) (x : V) (args : List V) (q : Post) (σ : Sto) : Prop := match f, x, args with
  | .append, .ref a, [y] => ∃ xs, σ a = some (.list true xs) ∧ xs.length ≤ 10000 ∧ q .none (σ.set a (.list true (xs ++ [y])))
  | .popL, .ref a, [.int k] => ∃ xs, σ a = some (.list true xs) ∧ 0 ≤ k ∧ ∃ y, xs[k.toNat]? = some y ∧ xs.length ≤ 10000 ∧ q y (σ.set a (.list true (xs.eraseIdx k.toNat)))
  | .popD, .ref a, [.int k] => ∃ es ep, σ a = some (.dict es ep) ∧ ∃ y, getE k es = some y ∧ es.length ≤ 10000 ∧ ∀ ep, q y (σ.set a (.dict (delE k es) ep))
  | .clear, .ref a, [] => ∃ es ep, σ a = some (.dict es ep) ∧ ∀ ep', q .none (σ.set a (.dict [] ep'))
  | _, _, _ => False
noncomputable def bmOn (f : BM) (x : V) (σ : Sto) : Prop := match f, x with
  | .append, .ref a => ∃ xs, σ a = some (.list true xs)
  | .popL, .ref a => ∃ xs, σ a = some (.list true xs)
  | .popD, .ref a => ∃ es ep, σ a = some (.dict es ep)
  | .clear, .ref a => ∃ es ep, σ a = some (.dict es ep)
  | _, _ => False
noncomputable def takeW (x n : V) (q : Post) (σ : Sto) : Prop := match x, n with
  | .ref a, .int lim => ∃ k, σ a = some (.taker k) ∧ k < 400 ∧ 0 < lim ∧ lim ≤ 1000 ∧ ∀ r : Int, 0 ≤ r → r < lim → q (.int r) (σ.set a (.taker (k + 1)))
  | _, _ => False
noncomputable def putF (fs : List V) (i : Nat) (x : V) : List V := if i < fs.length then fs.set i x else fs ++ [x]
noncomputable abbrev WP := Post → Env0 → Sto → Prop
noncomputable def goComp (Γ : Gx) (elt : WP) (c : (Bool → Sto → Prop) → Env0 → Sto → Prop) (t : Nat) (a : Addr) (src : AO) (q : List V → Sto → Prop) : List V → List V → Env0 → Sto → Prop
  | [], acc, _, σ => look Γ σ a = some src ∧ q acc σ
  | x :: r, acc, ε, σ => look Γ σ a = some src ∧ c (fun b σ' => if b then elt (fun y σ'' => goComp Γ elt c t a src q r (acc ++ [y]) (ε.set t (some x)) σ'') (ε.set t (some x)) σ'
      else goComp Γ elt c t a src q r acc (ε.set t (some x)) σ') (ε.set t (some x)) σ
mutual
noncomputable def wpE (Γ : Gx) : PE → WP
  | .var i => fun q ε σ => ∃ x, ε[i]? = some (some x) ∧ q x σ
  | .none => fun q _ σ => q .none σ
  | .bool b => fun q _ σ => q (.bool b) σ
  | .int i => fun q _ σ => q (.int i) σ
  | .str x => fun q _ σ => q (.str x) σ
  | .bytes x => fun q _ σ => q (.bytes x.toArray) σ
  | .glob a => fun q _ σ => q (.ref a) σ
  | .attr e i => fun q ε σ => wpE Γ e (fun v σ' => ∃ a fs x, v = .ref a ∧ σ' a = some (.inst Γ.cls fs) ∧ fs[i]? = some x ∧ q x σ') ε σ
  | .list es => fun q ε σ => wpEs Γ es (fun xs σ' => ∀ l, New Γ σ' l → q (.ref l) (σ'.set l (.list true xs))) ε σ
  | .tup es => fun q ε σ => wpEs Γ es (fun xs σ' => ∀ l, New Γ σ' l → q (.ref l) (σ'.set l (.tup xs))) ε σ
  | .dict es => fun q ε σ => wpDs Γ es (fun ps σ' => ∀ l, New Γ σ' l → ∀ ep, q (.ref l) (σ'.set l (.dict (ps.foldl (fun es p => putE p.1 p.2 es) []) ep))) ε σ
  | .ite c a b => fun q ε σ => wpC Γ c (fun t σ' => if t then wpE Γ a q ε σ' else wpE Γ b q ε σ') ε σ
  | .add a b => fun q ε σ => wpE Γ a (fun x σ' => wpE Γ b (fun y σ'' => addW Γ x y q σ'') ε σ') ε σ
  | .ar op a b => fun q ε σ => wpE Γ a (fun x σ' => wpE Γ b (fun y σ'' => arW op x y q σ'') ε σ') ε σ
  | .cmp op a b => fun q ε σ => wpE Γ a (fun x σ' => wpE Γ b (fun y σ'' => opW Γ op x y (fun t => q (.bool t)) σ'') ε σ') ε σ
  | .and a b => fun q ε σ => wpE Γ a (fun x σ' => ∃ t, truV (look Γ σ') x = some t ∧ if t then wpE Γ b q ε σ' else q x σ') ε σ
  | .sub a i => fun q ε σ => wpE Γ a (fun x σ' => wpE Γ i (fun y σ'' => subW Γ x y q σ'') ε σ') ε σ
  | .upto a i => fun q ε σ => wpE Γ a (fun x σ' => wpE Γ i (fun y σ'' => sliceW Γ List.take x y q σ'') ε σ') ε σ
  | .from_ a i => fun q ε σ => wpE Γ a (fun x σ' => wpE Γ i (fun y σ'' => sliceW Γ List.drop x y q σ'') ε σ') ε σ
  | .fn f args => fun q ε σ => wpEs Γ args (fun xs σ' => Γ.fn f xs q σ') ε σ
  | .bi f e => fun q ε σ => wpE Γ e (fun x σ' => biW Γ f x q σ') ε σ
  | .take e n => fun q ε σ => wpE Γ e (fun x σ' => wpE Γ n (fun y σ'' => takeW x y q σ'') ε σ') ε σ
  | .meth e n args => fun q ε σ => wpE Γ e (fun x σ' => (∃ a fs, x = .ref a ∧ σ' a = some (.inst Γ.cls fs)) ∧ wpEs Γ args (fun xs σ'' => Γ.fn (Γ.meth n) (x :: xs) q σ'') ε σ') ε σ
  | .bm e n args => fun q ε σ => wpE Γ e (fun x σ' => bmOn n x σ' ∧ wpEs Γ args (fun xs σ'' => bmW Γ n x xs q σ'') ε σ') ε σ
  | .comp elt t it c => fun q ε σ => wpE Γ it (fun v σ' => ∃ a src xs, v = .ref a ∧ look Γ σ' a = some src ∧ itemsOf src = some xs ∧ xs.length ≤ 1000 ∧
      goComp Γ (wpE Γ elt) (wpC Γ c) t a src (fun ys σ'' => ∀ l, New Γ σ'' l → q (.ref l) (σ''.set l (.list true ys))) xs [] (ε ++ [none]) σ') ε σ
noncomputable def wpEs (Γ : Gx) : PEs → (List V → Sto → Prop) → Env0 → Sto → Prop
  | .nil => fun q _ σ => q [] σ
  | .cons e r => fun q ε σ => wpE Γ e (fun x σ' => wpEs Γ r (fun xs σ'' => q (x :: xs) σ'') ε σ') ε σ
noncomputable def wpDs (Γ : Gx) : PEs → (List (Int × V) → Sto → Prop) → Env0 → Sto → Prop
  | .nil => fun q _ σ => q [] σ
  | .cons k (.cons e r) => fun q ε σ => wpE Γ k (fun y σ' => ∃ i, y = .int i ∧ wpE Γ e (fun x σ'' => wpDs Γ r (fun ps σ₃ => q ((i, x) :: ps) σ₃) ε σ'') ε σ') ε σ
  | .cons _ .nil => fun _ _ _ => False
noncomputable def wpC (Γ : Gx) : PC → (Bool → Sto → Prop) → Env0 → Sto → Prop
  | .tru => fun q _ σ => q true σ
  | .not c => fun q ε σ => wpC Γ c (fun t => q (!t)) ε σ
  | .and a b => fun q ε σ => wpC Γ a (fun t σ' => if t then wpC Γ b q ε σ' else q false σ') ε σ
  | .or a b => fun q ε σ => wpC Γ a (fun t σ' => if t then q true σ' else wpC Γ b q ε σ') ε σ
  | .cmp op a b => fun q ε σ => wpE Γ a (fun x σ' => wpE Γ b (fun y σ'' => opW Γ op x y q σ'') ε σ') ε σ
  | .chain a o1 b o2 c => fun q ε σ => wpE Γ a (fun x σ' => wpE Γ b (fun y σ'' => opW Γ o1 x y (fun t σ₃ => if t then wpE Γ c (fun z σ₄ => opW Γ o2 y z q σ₄) ε σ₃ else q false σ₃) σ'') ε σ') ε σ
  | .val e => fun q ε σ => wpE Γ e (fun x σ' => ∃ t, truV (look Γ σ') x = some t ∧ q t σ') ε σ
end
noncomputable abbrev PostE := Env0 → Sto → Prop
noncomputable def setAll : List Nat → List V → Env0 → Env0
  | i :: is, x :: xs, ε => setAll is xs (ε.set i (some x))
  | _, _, ε => ε
noncomputable def ptsLen : PTs → Nat
  | .nil => 0
  | .cons _ r => ptsLen r + 1
mutual
noncomputable def wpT (Γ : Gx) : PT → V → PostE → PostE
  | .var i => fun x q ε σ => i < ε.length ∧ q (ε.set i (some x)) σ
  | .attr e i => fun x q ε σ => wpE Γ e (fun v σ' => ∃ a fs, v = .ref a ∧ σ' a = some (.inst Γ.cls fs) ∧ i ≤ fs.length ∧ q ε (σ'.set a (.inst Γ.cls (putF fs i x)))) ε σ
  | .sub e i => fun x q ε σ => wpE Γ e (fun v σ' => wpE Γ i (fun k σ'' => ∃ a j es ep, v = .ref a ∧ k = .int j ∧ σ'' a = some (.dict es ep) ∧ es.length ≤ 10000 ∧ ∀ ep', q ε (σ''.set a (.dict (putE j x es) ep'))) ε σ') ε σ
  | .subl e i => fun x q ε σ => wpE Γ e (fun v σ' => wpE Γ i (fun k σ'' => ∃ a j xs, v = .ref a ∧ k = .int j ∧ σ'' a = some (.list true xs) ∧ 0 ≤ j ∧ j.toNat < xs.length ∧ xs.length ≤ 10000 ∧ q ε (σ''.set a (.list true (xs.set j.toNat x)))) ε σ') ε σ
  | .tup ts => fun x q ε σ => ∃ a xs, x = .ref a ∧ look Γ σ a = some (.tup xs) ∧ xs.length = ptsLen ts ∧ wpTs Γ ts xs q ε σ
  | .rev is => fun x q ε σ => ∃ a xs, x = .ref a ∧ look Γ σ a = some (.tup xs) ∧ xs.length = is.length ∧ q (setAll is.reverse xs.reverse ε) σ
noncomputable def wpTs (Γ : Gx) : PTs → List V → PostE → PostE
  | .nil => fun xs q ε σ => xs = [] ∧ q ε σ
  | .cons t r => fun xs q ε σ => ∃ x xr, xs = x :: xr ∧ wpT Γ t x (fun ε' σ' => wpTs Γ r xr q ε' σ') ε σ
end
noncomputable abbrev PostF := Fl → Env0 → Sto → Prop
noncomputable def goFor (Γ : Gx) (t : V → PostE → PostE) (b : PostF → PostE) (a : Addr) (src : AO) (q : PostF) : List V → PostE
  | [] => fun ε σ => look Γ σ a = some src ∧ q .next ε σ
  | x :: r => fun ε σ => look Γ σ a = some src ∧ t x (b fun f ε' σ' => match f with
      | .next => goFor Γ t b a src q r ε' σ'
      | .cont => goFor Γ t b a src q r ε' σ'
      | .brk => q .next ε' σ'
      | .ret v => q (.ret v) ε' σ') ε σ
noncomputable def goWhile (c : (Bool → Sto → Prop) → PostE) (b : PostF → PostE) (q : PostF) : Nat → PostE
  | 0 => fun _ _ => False
  | n + 1 => fun ε σ => c (fun t σ' => if t then b (fun f ε' σ'' => match f with
      | .next => goWhile c b q n ε' σ''
      | .cont => goWhile c b q n ε' σ''
      | .brk => q .next ε' σ''
      | .ret v => q (.ret v) ε' σ'') ε σ' else q .next ε σ') ε σ
mutual
noncomputable def wpS (Γ : Gx) : PS → PostF → PostE
  | .fail => fun _ _ _ => False
  | .expr e => fun q ε σ => wpE Γ e (fun x σ' => (∀ a, x ≠ .ref a) ∧ q .next ε σ') ε σ
  | .asg t e => fun q ε σ => wpE Γ e (fun x σ' => wpT Γ t x (q .next) ε σ') ε σ
  | .ret e => fun q ε σ => wpE Γ e (fun x σ' => q (.ret x) ε σ') ε σ
  | .ite c a b => fun q ε σ => wpC Γ c (fun t σ' => if t then wpSs Γ a q ε σ' else wpSs Γ b q ε σ') ε σ
  | .for_ t it b => fun q ε σ => wpE Γ it (fun v σ' => ∃ a src xs, v = .ref a ∧ look Γ σ' a = some src ∧ itemsOf src = some xs ∧ xs.length ≤ 100000 ∧ goFor Γ (wpT Γ t) (wpSs Γ b) a src q xs ε σ') ε σ
  | .while_ c b => fun q ε σ => ∃ n, goWhile (wpC Γ c) (wpSs Γ b) q n ε σ
noncomputable def wpSs (Γ : Gx) : PSs → PostF → PostE
  | .nil => fun q ε σ => q .next ε σ
  | .cons s r => fun q ε σ => wpS Γ s (fun f ε' σ' => match f with
      | .next => wpSs Γ r q ε' σ'
      | f => q f ε' σ') ε σ
end
end Mine
end
section
open PySem PySem.W PyProof.Rows
set_option Elab.async false
set_option maxRecDepth 100000
namespace Mine
noncomputable def nameOk (K : Frag) (C : Addr) (n : PySem.Str) : Bool :=
  plainGet K C n && (findIn K (.ref C) n).any (noGet K) && takerIn K C n == some none
noncomputable def methOk (K : Frag) (C : Addr) (names : List PySem.Str) (p : PySem.Str × Addr) : Bool :=
  plainGet K C p.1 && findIn K (.ref C) p.1 == some (some (.ref p.2)) && isFn K (.ref p.2) && !names.contains p.1
noncomputable def clsOk (K : Frag) (C : Addr) (names : List PySem.Str) (meths : List (PySem.Str × Addr)) : Bool :=
  hasDictIn K C && plainOver K C && findIn K (.ref C) "__setattr__" == some (some (.builtin "object.__setattr__")) &&
    names.all (nameOk K C) && meths.all (methOk K C names) && decide names.Nodup && decide (names.length ≤ 100)
structure GOk (κ : Kx) (Γ : Gx) (meths : List (PySem.Str × Addr)) (d : Nat) : Prop where
  ok : κ.Ok
  stat : ∀ a o, Γ.stat a = some o → (∃ ob, κ.base.get? a = some ob) ∧ ∀ σ h, κ.base.StaysIn h → Sits κ σ h a o
  still : ∀ a o, Γ.stat a = some o → (∃ xs, o = .list false xs) ∨ ∃ xs, o = .tup xs
  cls : clsOk κ.K Γ.cls κ.names meths = true
  meth : ∀ i p, meths[i]? = some p → Γ.meth i = p.2
  fn : ∀ f xs q σ A s args, Γ.fn f xs q σ → Room A d → St κ σ s → Vals args xs →
    codeAny (model κ.prog κ.w) A (.call (.ref f) ⟨args, []⟩) (fun r s' => ∃ v, r = .ok (.ret v) ∧ After κ [] σ s (fun v σ' => ∃ x, Is v x ∧ q x σ') v s') s
  take : 0 < d → ∀ (a : Addr) (k : Nat) (lim : Int) (t : Tok) (A : Around) (s : Shared) (σ : Sto) (q : Post), Room A d → St κ σ s → σ a = some (.taker k) → k < 400 → 0 < lim → lim ≤ 1000 → (∀ r : Int, 0 ≤ r → r < lim → q (V.int r) (σ.set a (.taker (k + 1)))) →
    Goes κ [] A (call (.ref a) [.int lim t]) σ s (fun v σ' => ∃ x, Is v x ∧ q x σ')
  takeKeep : ∀ h a k F, κ.tk h a k F → ∃ kp, (kp = Keeper.frame ∨ kp = Keeper.machine ∨ kp = Keeper.boundFrame) ∧ Looks (model κ.prog κ.w) h (keeperOf (.ref a)) kp
variable {κ : Kx} {Γ : Gx} {meths : List (PySem.Str × Addr)} {d : Nat}
theorem look_sits (G : GOk κ Γ meths d) {σ : Sto} {s : Shared} (S : St κ σ s) {a : Addr} {o : AO} (e : look Γ σ a = some o) : Sits κ σ s.heap a o := by
  unfold look at e
  split at e
  · rename_i o' h; cases e; exact (G.stat a _ h).2 σ s.heap S.base
  · exact S.sits a o e
theorem new_of (G : GOk κ Γ meths d) {σ : Sto} {s : Shared} (S : St κ σ s) {a : Addr} (e : s.heap.get? a = none) : New Γ σ a := by
  refine ⟨S.none_of G.ok e, ?_⟩
  cases q : Γ.stat a with
  | none => rfl
  | some o =>
    obtain ⟨ob, z⟩ := (G.stat a o q).1
    rw [S.base a ob z] at e; cases e
theorem after_new (G : GOk κ Γ meths d) {σ : Sto} {s : Shared} (S : St κ σ s) {ob : Obj} {ao : AO} {q : Post} (hn : Sits κ (σ.set s.heap.objs.size ao) (s.heap.push ob) s.heap.objs.size ao)
    (h : ∀ l, New Γ σ l → q (.ref l) (σ.set l ao)) : After κ [] σ s (fun v σ' => ∃ x, Is v x ∧ q x σ') (.ref s.heap.objs.size) { s with heap := s.heap.push ob } := by
  have ha := fresh_none s.heap
  obtain ⟨a, b⟩ := S.more G.ok (h' := s.heap.push ob) (tk := s.toks) ha (fun b o e => Heap.get?_push_of_some _ e) hn
  exact ⟨_, Way.of' b, a, _, .ref _, h _ (new_of G S ha)⟩
theorem seq_sits {σ : Sto} {h : Heap} {vs : List Value} {xs : List V} (hv : Vals vs xs) (hb : κ.base.get? h.objs.size = none) (hz : xs.length ≤ 1000000) :
    Sits κ (σ.set h.objs.size (.list true xs)) (h.push { cls := .type "list", data := .seq vs.toArray }) h.objs.size (.list true xs) :=
  ⟨vs, 0, Heap.get?_push_size _ rfl, hv, fun _ => hb, hz⟩
theorem tup_sits {σ : Sto} {h : Heap} {vs : List Value} {xs : List V} (hv : Vals vs xs) :
    Sits κ (σ.set h.objs.size (.tup xs)) (h.push { cls := .type "tuple", data := .seq vs.toArray }) h.objs.size (.tup xs) :=
  ⟨vs, ⟨_, Heap.get?_push_size _ rfl, rfl, _, rfl⟩, hv⟩
noncomputable def SE (κ : Kx) (d : Nat) (env : Env) (vars : List (PySem.Str × Loc)) (e : PySem.Expr) (w : WP) : Prop :=
  ∀ A s σ ε q, Room A d → St κ σ s → FrameSt vars ε σ s.heap → w q ε σ → Goes κ [] A (eval e env) σ s (fun v σ' => ∃ x, Is v x ∧ q x σ')
noncomputable def SC (κ : Kx) (d : Nat) (env : Env) (vars : List (PySem.Str × Loc)) (e : PySem.Expr) (w : (Bool → Sto → Prop) → Env0 → Sto → Prop) : Prop :=
  ∀ A s σ ε q, Room A d → St κ σ s → FrameSt vars ε σ s.heap → w q ε σ → Goes κ [] A (isTrue e env (eval e env)) σ s q
noncomputable def SEs (κ : Kx) (d : Nat) (env : Env) (vars : List (PySem.Str × Loc)) (es : List PySem.Expr) (w : (List V → Sto → Prop) → Env0 → Sto → Prop) : Prop :=
  ∀ A s σ ε q pos, Room A d → St κ σ s → FrameSt vars ε σ s.heap → w q ε σ → Goes κ [] A (spliced (backTo pos (starEach es env))) σ s (fun vs σ' => ∃ xs, Vals vs xs ∧ vs.length = es.length ∧ q xs σ')
variable {env : Env} {vars : List (PySem.Str × Loc)}
theorem se_var {ce : CEnv} {n : PySem.Str} {pos : Pos} {i : Nat} (eo : EnvOk env ce vars) (hi : ce.var n = some i) (hd : (n == ("__debug__" : PySem.Str)) = false) : SE κ d env vars (.Name n pos) (wpE Γ (.var i)) := by
  rintro A s σ ε q r S F ⟨x, hx, hq⟩
  exact load_var eo F hi hx hd fun v hv => After.now S ⟨x, hv, hq⟩
theorem se_bool {b : Bool} {k : Nat} {pos : Pos} : SE κ d env vars (.Constant (.bool b) k pos) (wpE Γ (.bool b)) := fun _ _ _ _ _ _ S _ hq => wpAny_Constant_bool (After.now S ⟨_, .bool b, hq⟩)
theorem se_int {i : Int} {k : Nat} {pos : Pos} : SE κ d env vars (.Constant (.int i) k pos) (wpE Γ (.int i)) := fun _ _ _ _ _ _ S _ hq => wpAny_Constant_int (After.tok S ⟨_, .int i _, hq⟩)
theorem se_str {x : PySem.Str} {k : Nat} {pos : Pos} : SE κ d env vars (.Constant (.str x) k pos) (wpE Γ (.str x)) := fun _ _ _ _ _ _ S _ hq => wpAny_Constant_str (After.tok S ⟨_, .str x _, hq⟩)
theorem se_bytes {x : List UInt8} {k : Nat} {pos : Pos} : SE κ d env vars (.Constant (.bytes x) k pos) (wpE Γ (.bytes x)) := fun _ _ _ _ _ _ S _ hq => by
  show wpAny _ _ (mkTextBytes x.toArray) _ _ _
  exact wpAny_mkTextBytes (After.tok S ⟨_, .bytes _ _, hq⟩)
theorem ses_nil : SEs κ d env vars [] (wpEs Γ .nil) := fun _ _ _ _ _ _ _ S _ hq => wpAny_items_nil (After.now S ⟨[], .nil, rfl, hq⟩)
theorem ses_cons {e : PySem.Expr} {es : List PySem.Expr} {pe : PE} {pes : PEs} (he : starEach (e :: es) env = (false, eval e env) :: starEach es env) (h1 : SE κ d env vars e (wpE Γ pe)) (h2 : SEs κ d env vars es (wpEs Γ pes)) :
    SEs κ d env vars (e :: es) (wpEs Γ (.cons pe pes)) := by
  rintro A s σ ε q pos r S F hq
  refine wpAny_items_cons (wpAny_mono (h1 A s σ ε _ r S F hq) (fun v s1 zz => ?_) fun _ _ z => z) he
  obtain ⟨σ1, w1, S1, x, ix, q1⟩ := zz
  refine wpAny_mono (h2 A s1 σ1 ε _ pos r S1 (F.keep w1.fut) q1) (fun vs s2 zz => ?_) fun _ _ z => z
  obtain ⟨σ2, w2, S2, xs, hv, hl, q2⟩ := zz
  exact ⟨σ2, w1.trans w2, S2, _, .cons ix hv, by simp [hl], q2⟩
theorem se_list (G : GOk κ Γ meths d) {es : List PySem.Expr} {pos : Pos} {pes : PEs} (hz : es.length ≤ 1000) (h : SEs κ d env vars es (wpEs Γ pes)) : SE κ d env vars (.List es pos) (wpE Γ (.list pes)) := by
  rintro A s σ ε q r S F hq
  refine wpAny_List (wpAny_mono (h A s σ ε _ pos r S F hq) (fun vs s1 ⟨σ1, w1, S1, xs, hv, hl, q1⟩ => ⟨by rw [hl, sizeLine_eq]; omega, ?_⟩) fun _ _ z => z)
  exact After.up w1 (after_new G S1 (seq_sits hv (S1.base_none (fresh_none _)) (by rw [← hv.length, hl]; omega)) q1)
theorem se_tup (G : GOk κ Γ meths d) {es : List PySem.Expr} {k : Nat} {pos : Pos} {pes : PEs} (hz : es.length ≤ 1000) (h : SEs κ d env vars es (wpEs Γ pes)) : SE κ d env vars (.Tuple es k pos) (wpE Γ (.tup pes)) := by
  rintro A s σ ε q r S F hq
  refine wpAny_Tuple (wpAny_mono (h A s σ ε _ pos r S F hq) (fun vs s1 ⟨σ1, w1, S1, xs, hv, hl, q1⟩ => ⟨by rw [hl, sizeLine_eq]; omega, ?_⟩) fun _ _ z => z)
  exact After.up w1 (after_new G S1 (tup_sits hv) q1)
theorem se_ite {c a b : PySem.Expr} {pos : Pos} {pc : PC} {pa pb : PE} (hc : SC κ d env vars c (wpC Γ pc)) (ha : SE κ d env vars a (wpE Γ pa)) (hb : SE κ d env vars b (wpE Γ pb)) : SE κ d env vars (.IfExp c a b pos) (wpE Γ (.ite pc pa pb)) := by
  rintro A s σ ε q r S F hq
  refine wpAny_IfExp (wpAny_mono (hc A s σ ε _ r S F hq) (fun t s1 zz => ?_) fun _ _ z => z)
  obtain ⟨σ1, w1, S1, q1⟩ := zz
  cases t with
  | true => exact Goes.up w1 (ha A s1 σ1 ε q r S1 (F.keep w1.fut) q1)
  | false => exact Goes.up w1 (hb A s1 σ1 ε q r S1 (F.keep w1.fut) q1)
theorem sc_not {c : PySem.Expr} {pos : Pos} {pc : PC} (hc : SC κ d env vars c (wpC Γ pc)) : SC κ d env vars (.UnaryOp .Not c pos) (wpC Γ (.not pc)) := by
  rintro A s σ ε q r S F hq
  refine wpAny_isTrue_Not (wpAny_mono (hc A s σ ε _ r S F hq) (fun t s1 zz => ?_) fun _ _ z => z)
  obtain ⟨σ1, w1, S1, q1⟩ := zz
  exact ⟨σ1, w1, S1, q1⟩
noncomputable def SA (κ : Kx) (d : Nat) (env : Env) (vars : List (PySem.Str × Loc)) (op : BoolOp) (es : List PySem.Expr) (w : (Bool → Sto → Prop) → Env0 → Sto → Prop) : Prop :=
  ∀ A s σ ε q, Room A d → St κ σ s → FrameSt vars ε σ s.heap → w q ε σ → Goes κ [] A (allTrue op es env) σ s q
theorem sc_bool {op : BoolOp} {es : List PySem.Expr} {pos : Pos} {w : (Bool → Sto → Prop) → Env0 → Sto → Prop} (h : SA κ d env vars op es w) : SC κ d env vars (.BoolOp op es pos) w := fun A s σ ε q r S F hq => wpAny_isTrue_BoolOp (h A s σ ε q r S F hq)
theorem sa_and_one {c : PySem.Expr} {pc : PC} (hc : SC κ d env vars c (wpC Γ pc)) : SA κ d env vars .And [c] (wpC Γ pc) := by
  rintro A s σ ε q r S F hq
  refine wpAny_allTrue_And_cons (wpAny_mono (hc A s σ ε _ r S F hq) (fun t s1 zz => ?_) fun _ _ z => z)
  obtain ⟨σ1, w1, S1, q1⟩ := zz
  cases t with
  | true => exact wpAny_allTrue_And_nil ⟨σ1, w1, S1, q1⟩
  | false => exact ⟨σ1, w1, S1, q1⟩
theorem sa_or_one {c : PySem.Expr} {pc : PC} (hc : SC κ d env vars c (wpC Γ pc)) : SA κ d env vars .Or [c] (wpC Γ pc) := by
  rintro A s σ ε q r S F hq
  refine wpAny_allTrue_Or_cons (wpAny_mono (hc A s σ ε _ r S F hq) (fun t s1 zz => ?_) fun _ _ z => z)
  obtain ⟨σ1, w1, S1, q1⟩ := zz
  cases t with
  | true => exact ⟨σ1, w1, S1, q1⟩
  | false => exact wpAny_allTrue_Or_nil ⟨σ1, w1, S1, q1⟩
theorem sa_and {c : PySem.Expr} {cs : List PySem.Expr} {pc pr : PC} (hc : SC κ d env vars c (wpC Γ pc)) (hr : SA κ d env vars .And cs (wpC Γ pr)) : SA κ d env vars .And (c :: cs) (wpC Γ (.and pc pr)) := by
  rintro A s σ ε q r S F hq
  refine wpAny_allTrue_And_cons (wpAny_mono (hc A s σ ε _ r S F hq) (fun t s1 zz => ?_) fun _ _ z => z)
  obtain ⟨σ1, w1, S1, q1⟩ := zz
  cases t with
  | true => exact Goes.up w1 (hr A s1 σ1 ε q r S1 (F.keep w1.fut) q1)
  | false => exact ⟨σ1, w1, S1, q1⟩
theorem sa_or {c : PySem.Expr} {cs : List PySem.Expr} {pc pr : PC} (hc : SC κ d env vars c (wpC Γ pc)) (hr : SA κ d env vars .Or cs (wpC Γ pr)) : SA κ d env vars .Or (c :: cs) (wpC Γ (.or pc pr)) := by
  rintro A s σ ε q r S F hq
  refine wpAny_allTrue_Or_cons (wpAny_mono (hc A s σ ε _ r S F hq) (fun t s1 zz => ?_) fun _ _ z => z)
  obtain ⟨σ1, w1, S1, q1⟩ := zz
  cases t with
  | true => exact ⟨σ1, w1, S1, q1⟩
  | false => exact Goes.up w1 (hr A s1 σ1 ε q r S1 (F.keep w1.fut) q1)
theorem Ents.length {kvs : List (Int × Value)} {es : List (Int × V)} (h : Ents kvs es) : kvs.length = es.length := by
  induction h with
  | nil => rfl
  | cons _ _ ih => simp [ih]
theorem new_low (G : GOk κ Γ meths d) {σ : Sto} {s : Shared} (S : St κ σ s) : (s.heap.objs.size == sysModules) = false := by
  have z := (G.ok.T.keeps (fun b o e => S.base b o e)).g.lt
  have : sysModules < mainGlobals := by decide
  exact beq_eq_false_iff_ne.mpr (by intro e; rw [e] at z; exact absurd (Nat.lt_trans z this) (Nat.lt_irrefl _))
theorem truth_ok (G : GOk κ Γ meths d) {A : Around} {σ : Sto} {s : Shared} {v : Value} {x : V} {t : Bool} {q : Bool → Sto → Prop} (S : St κ σ s) (hv : Is v x) (ht : truV (look Γ σ) x = some t) (hq : q t σ) : Goes κ [] A (truthy v) σ s q := by
  cases hv with
  | bool b => cases ht; exact wpAny_truthy_bool (After.now S hq)
  | ref a =>
    unfold truV at ht
    dsimp only at ht
    cases e : look Γ σ a with
    | none => rw [e] at ht; cases ht
    | some o =>
      have Z := look_sits G S e
      rw [e] at ht
      cases o with
      | list m xs =>
        cases ht
        obtain ⟨vs, n, hl, hv, _, hz⟩ := Z
        refine wpAny_truthy_list (items := vs.toArray) ⟨_, hl, rfl, _, rfl⟩ (by rw [List.size_toArray, hv.length]; omega) (After.tok S ?_)
        have : (!vs.toArray.isEmpty) = !xs.isEmpty := by cases hv <;> rfl
        rw [this]; exact hq
      | dict es ep =>
        cases ht
        obtain ⟨kvs, hd, he, _, hz, hl⟩ := Z
        refine wpAny_truthy_dict (K := Int) (knd := intKind κ.prog κ.w) (kvs := kvs) hl hd.dictOf (by rw [he.length]; omega) (After.tok S ?_)
        have : (!kvs.isEmpty) = !es.isEmpty := by cases he <;> rfl
        rw [this]; exact hq
      | _ => cases ht
  | _ => cases ht
end Mine
end
section
open PySem PySem.W PyProof.Rows PySem.SeqAt
set_option Elab.async false
set_option maxRecDepth 100000
namespace Mine
variable {κ : Kx} {Γ : Gx} {meths : List (PySem.Str × Addr)} {d : Nat} {env : Env} {vars : List (PySem.Str × Loc)}
theorem EqAt.bytes {A : Around} {s : Shared} (a : Array UInt8) (t : Tok) (b : Array UInt8) (u : Tok) : EqAt A s (.bytes a t) (.bytes b u) (a.toList == b.toList) := fun prog w E Q h => by
  unfold eqBool
  refine wpAny_holding (wpAny_ite_split (fun hab => ?_) fun _ => ?_)
  · have e : a = b := by have := eq_of_beq hab; injection this
    subst e
    rw [beq_self_eq_true] at h
    exact wpAny_bind (wpAny_rule (wpAny_pure h))
  · exact wpAny_bind (W.eq_bytes (wpAny_truthy_bool h))
theorem allEq_spec {f : V → V → Option Bool} : ∀ {xs ys : List V} {b : Bool}, allEq f xs ys = some b → xs.length = ys.length ∧ ∃ e : Nat → Bool, (∀ (j : Nat) (x y : V), xs[j]? = some x → ys[j]? = some y → f x y = some (e j)) ∧ b = (List.range xs.length).all e
  | [], [], b, h => by cases h; exact ⟨rfl, fun _ => true, fun j x y e => by simp at e, rfl⟩
  | [], _ :: _, _, h => by cases h
  | _ :: _, [], _, h => by cases h
  | x :: xs, y :: ys, b, h => by
    unfold allEq at h
    split at h
    · rename_i a c h1 h2
      cases h
      obtain ⟨hl, e, he, rfl⟩ := allEq_spec h2
      refine ⟨by simp [hl], fun j => match j with | 0 => a | j + 1 => e j, fun j u v e1 e2 => ?_, ?_⟩
      · cases j with
        | zero => simp at e1 e2; subst e1 e2; exact h1
        | succ j => exact he j u v (by simpa using e1) (by simpa using e2)
      · rw [List.length_cons, List.range_succ_eq_map, List.all_cons, List.all_map]; rfl
    · cases h
theorem allEq_refl {f : V → V → Option Bool} (hf : ∀ x b, f x x = some b → b = true) : ∀ {xs : List V} {b : Bool}, allEq f xs xs = some b → b = true
  | [], _, h => by cases h; rfl
  | x :: xs, b, h => by
    unfold allEq at h
    split at h
    · rename_i a c h1 h2
      cases h
      rw [hf x a h1, allEq_refl hf h2]; rfl
    · cases h
theorem eqV_refl (L : Addr → Option AO) : ∀ (n : Nat) (x : V) (b : Bool), eqV L n x x = some b → b = true := by
  intro n
  induction n with
  | zero =>
    intro x b h
    cases x <;> simp [eqV] at h <;> exact h
  | succ n ih =>
    intro x b h
    cases x with
    | ref a =>
      unfold eqV at h
      split at h
      · rename_i m xs m' ys e1 e2
        rw [e1] at e2; cases e2
        rw [if_pos rfl] at h
        exact allEq_refl ih h
      · rename_i xs ys e1 e2
        rw [e1] at e2; cases e2
        rw [if_pos rfl] at h
        exact allEq_refl ih h
      · rw [if_pos rfl] at h
        cases h; rfl
      · cases h
    | _ => simp [eqV] at h <;> exact h
theorem arr_get {vs : List Value} {j : Nat} (h : j < vs.toArray.size) : vs[j]? = some vs.toArray[j] := by
  have h' : j < vs.length := by simpa using h
  simp [h']
theorem pairs_any {p p' : Program} {w w' : World} {es : List DictEntry} {kvs : List (Int × Value)} (h : Pairs (intKind p w) es kvs) : Pairs (intKind p' w') es kvs := by
  induction h with
  | nil => exact .nil
  | cons a b _ ih => exact .cons a b ih
theorem dictOf_any {p p' : Program} {w w' : World} {h : Heap} {a : Addr} {kvs : List (Int × Value)} (x : h.DictOf (intKind p w) a kvs) : h.DictOf (intKind p' w') a kvs :=
  let ⟨o, es, ep, h1, h2, h3, h4, h5, h6⟩ := x; ⟨o, es, ep, h1, h2, h3, h4, pairs_any h5, h6⟩
theorem Ents.valueAt {kvs : List (Int × Value)} {es : List (Int × V)} (h : Ents kvs es) (k : Int) : (getE k es = none → valueAt kvs k = none) ∧ ∀ x, getE k es = some x → ∃ v, valueAt kvs k = some v ∧ Is v x := by
  induction h with
  | nil => exact ⟨fun _ => rfl, fun x e => by cases e⟩
  | @cons k' v x es fs hv _ ih =>
    unfold PySem.valueAt at ih ⊢
    unfold getE
    by_cases hk : k' = k
    · simp only [hk, if_true]
      exact ⟨(fun e => nomatch e), fun x e => by cases e; exact ⟨v, by simp, hv⟩⟩
    · simp only [hk, if_false]
      have : ∀ (l : List (Int × Value)), ((k', v) :: l).find? (fun kv => decide (kv.1 = k)) = l.find? (fun kv => decide (kv.1 = k)) := fun l => by simp [List.find?_cons, hk]
      rw [this]
      exact ih
theorem dictEq_hits {f : V → V → Option Bool} {A : Around} {s : Shared} (hf : ∀ (x y : V) (b : Bool) (v u : Value), f x y = some b → Is v x → Is u y → EqAt A s v u b) {kb : List (Int × Value)} {fs : List (Int × V)} (hb : Ents kb fs) :
    ∀ {ka : List (Int × Value)} {es : List (Int × V)} {b : Bool}, Ents ka es → dictEq f fs es = some b → KeqHits A s kb ka b := by
  intro ka es b h
  induction h generalizing b with
  | nil => intro e; cases e; exact .nil
  | @cons k v x es fs' hv _ ih =>
    intro e
    unfold dictEq at e
    dsimp only at e
    split at e
    · rename_i q
      cases e
      exact .miss ((hb.valueAt k).1 q)
    · rename_i y q
      split at e
      · rename_i a c h1 h2
        cases e
        obtain ⟨u, hu, iu⟩ := (hb.valueAt k).2 y q
        exact .hit hu (hf x y a v u h1 hv iu) (ih h2)
      · cases e
theorem eqV_ok (G : GOk κ Γ meths d) {σ : Sto} {s : Shared} (S : St κ σ s) : ∀ (n : Nat) (x y : V) (b : Bool) (v u : Value) (A : Around), eqV (look Γ σ) n x y = some b → Is v x → Is u y → A.units + n < cLine → EqAt A s v u b := by
  intro n
  induction n with
  | zero =>
    intro x y b v u A h hv hu _
    cases hv <;> cases hu <;> first
      | (exfalso; simp [eqV] at h; done)
      | (cases h; exact EqAt.bool_bool _ _)
      | (cases h; exact EqAt.int_int _ _ _ _)
      | (cases h; exact EqAt.str_str _ _ _ _)
      | (cases h; exact EqAt.bytes _ _ _ _)
  | succ n ih =>
    intro x y b v u A h hv hu hA
    cases hv with
    | ref a =>
      cases hu with
      | ref c =>
        by_cases hac : a = c
        · subst hac
          rw [eqV_refl _ _ _ _ h]
          exact EqAt.same _
        · refine EqAt.of_refs hac ?_
          unfold eqV at h
          split at h
          · rename_i m xs m' ys e1 e2
            obtain ⟨vs, k, o1, hvs, _⟩ := look_sits G S e1
            obtain ⟨us, k', o2, hus, _⟩ := look_sits G S e2
            have l1 : s.heap.IsList a vs.toArray := ⟨_, o1, rfl, _, rfl⟩
            have l2 : s.heap.IsList c us.toArray := ⟨_, o2, rfl, _, rfl⟩
            split at h
            · rename_i hl
              obtain ⟨_, e, he, rfl⟩ := allEq_spec h
              have z := RcAt.lists (A := A) (e := e) l1 l2 (by simp [hvs.length, hus.length, hl]) (by omega) fun j h1 h2 => by
                obtain ⟨x, hx, ix⟩ := vals_back hvs (arr_get h1)
                obtain ⟨y, hy, iy⟩ := vals_back hus (arr_get h2)
                exact ih x y _ _ _ A.in1 (he j x y hx hy) ix iy (by show A.units + 1 + n < cLine; omega)
              rw [List.size_toArray, hvs.length] at z
              exact z
            · rename_i hl
              cases h
              exact RcAt.lists_lengths l1 l2 (by simp [hvs.length, hus.length, hl]) (by omega)
          · rename_i xs ys e1 e2
            obtain ⟨vs, l1, hvs⟩ := look_sits G S e1
            obtain ⟨us, l2, hus⟩ := look_sits G S e2
            split at h
            · rename_i hl
              obtain ⟨_, e, he, rfl⟩ := allEq_spec h
              have z := RcAt.tuples (A := A) (e := e) l1 l2 (by omega) fun j h1 h2 => by
                obtain ⟨x, hx, ix⟩ := vals_back hvs (arr_get h1)
                obtain ⟨y, hy, iy⟩ := vals_back hus (arr_get h2)
                exact ih x y _ _ _ A.in1 (he j x y hx hy) ix iy (by show A.units + 1 + n < cLine; omega)
              simp only [List.size_toArray, hvs.length, hus.length, hl, Nat.min_self, beq_self_eq_true, Bool.and_true] at z
              rw [hl]; exact z
            · cases h
          · rename_i es _ fs _ e1 e2
            rw [if_neg hac] at h
            obtain ⟨ka, d1, n1, _, hz1, lw1⟩ := look_sits G S e1
            obtain ⟨kb, d2, n2, _, hz2, lw2⟩ := look_sits G S e2
            intro prog w E Q hq
            have hits : ∀ b', dictEq (eqV (look Γ σ) n) fs es = some b' → KeqHits A.in1 s kb ka b' := fun b' e => dictEq_hits (fun x y b v u e iv iu => ih x y b v u A.in1 e iv iu (by show A.units + 1 + n < cLine; omega)) n2 n1 e
            split at h
            · rename_i hl
              refine keq_eq (knd := intKind prog w) lw1 lw2 (dictOf_any d1.dictOf) (dictOf_any d2.dictOf) (by omega) (fun _ => hits _ h) ?_
              rw [show (ka.length == kb.length) = true by rw [n1.length, n2.length, hl]; exact beq_self_eq_true _, Bool.true_and]
              exact hq
            · rename_i hl
              cases h
              refine keq_eq (knd := intKind prog w) (r := true) lw1 lw2 (dictOf_any d1.dictOf) (dictOf_any d2.dictOf) (by omega) (fun e => absurd ((n1.length.symm.trans e).trans n2.length) hl) ?_
              rw [show (ka.length == kb.length) = false by rw [n1.length, n2.length]; exact beq_eq_false_iff_ne.mpr hl, Bool.false_and]
              exact hq
          · cases h
      | _ => simp [eqV] at h
    | bool a =>
      cases hu with
      | bool c => cases h; exact EqAt.bool_bool _ _
      | _ => simp [eqV] at h
    | int a t =>
      cases hu with
      | int c u => cases h; exact EqAt.int_int _ _ _ _
      | _ => simp [eqV] at h
    | str a t =>
      cases hu with
      | str c u => cases h; exact EqAt.str_str _ _ _ _
      | _ => simp [eqV] at h
    | bytes a t =>
      cases hu with
      | bytes c u => cases h; exact EqAt.bytes _ _ _ _
      | _ => simp [eqV] at h
    | none => cases hu <;> simp [eqV] at h
end Mine
namespace Mine
variable {κ : Kx} {Γ : Gx} {meths : List (PySem.Str × Addr)} {d : Nat} {env : Env} {vars : List (PySem.Str × Loc)}
theorem eqT_ok (G : GOk κ Γ meths d) {σ : Sto} {s : Shared} (S : St κ σ s) {A : Around} (r : Room A d) {x y : V} {b : Bool} {v u : Value} {E : Value → Shared → Prop} {Q : Value → Shared → Prop} (h : eqT (look Γ σ) x y = some b) (hv : Is v x) (hu : Is u y) :
    (Q (.bool b) s → wpAny (model κ.prog κ.w) A (compareOp .Eq v u) Q E s) ∧ (Q (.bool !b) s → wpAny (model κ.prog κ.w) A (compareOp .NotEq v u) Q E s) := by
  have hA : A.units + 8 < cLine := by have := r.units; show A.units + 8 < 9900; omega
  have lists : ∀ a c m xs m' ys, look Γ σ a = some (.list m xs) → look Γ σ c = some (.list m' ys) → eqV (look Γ σ) 4 (.ref a) (.ref c) = some b →
      (Q (.bool b) s → wpAny (model κ.prog κ.w) A (compareOp .Eq (.ref a) (.ref c)) Q E s) ∧ (Q (.bool !b) s → wpAny (model κ.prog κ.w) A (compareOp .NotEq (.ref a) (.ref c)) Q E s) := by
    intro a c m xs m' ys e1 e2 h
    obtain ⟨vs, k, o1, hvs, _⟩ := look_sits G S e1
    obtain ⟨us, k', o2, hus, _⟩ := look_sits G S e2
    have l1 : s.heap.IsList a vs.toArray := ⟨_, o1, rfl, _, rfl⟩
    have l2 : s.heap.IsList c us.toArray := ⟨_, o2, rfl, _, rfl⟩
    unfold eqV at h
    rw [e1, e2] at h
    dsimp only at h
    split at h
    · rename_i hl
      obtain ⟨_, e, he, rfl⟩ := allEq_spec h
      have hz : vs.toArray.size = us.toArray.size := by simp [hvs.length, hus.length, hl]
      have hi : ∀ j (h1 : j < vs.toArray.size) (h2 : j < us.toArray.size), EqAt A.in1 s vs.toArray[j] us.toArray[j] (e j) := fun j h1 h2 => by
        obtain ⟨x, hx, ix⟩ := vals_back hvs (arr_get h1)
        obtain ⟨y, hy, iy⟩ := vals_back hus (arr_get h2)
        exact eqV_ok G S 3 x y _ _ _ A.in1 (he j x y hx hy) ix iy (by show A.units + 1 + 3 < cLine; omega)
      have z1 := RcAt.lists (A := A) (e := e) l1 l2 hz (by omega) hi κ.prog κ.w E Q
      have z2 := RcNeAt.lists (A := A) (e := e) l1 l2 hz (by omega) hi κ.prog κ.w E Q
      rw [List.size_toArray, hvs.length] at z1 z2
      exact ⟨z1, z2⟩
    · rename_i hl
      cases h
      have hz : (vs.toArray.size != us.toArray.size) = true := by simp [hvs.length, hus.length, hl]
      exact ⟨RcAt.lists_lengths (A := A) l1 l2 hz (by omega) κ.prog κ.w E Q, RcNeAt.lists_lengths (A := A) l1 l2 hz (by omega) κ.prog κ.w E Q⟩
  have tups : ∀ a c xs ys, look Γ σ a = some (.tup xs) → look Γ σ c = some (.tup ys) → eqV (look Γ σ) 4 (.ref a) (.ref c) = some b →
      (Q (.bool b) s → wpAny (model κ.prog κ.w) A (compareOp .Eq (.ref a) (.ref c)) Q E s) ∧ (Q (.bool !b) s → wpAny (model κ.prog κ.w) A (compareOp .NotEq (.ref a) (.ref c)) Q E s) := by
    intro a c xs ys e1 e2 h
    obtain ⟨vs, l1, hvs⟩ := look_sits G S e1
    obtain ⟨us, l2, hus⟩ := look_sits G S e2
    unfold eqV at h
    rw [e1, e2] at h
    dsimp only at h
    split at h
    · rename_i hl
      obtain ⟨_, e, he, rfl⟩ := allEq_spec h
      have hi : ∀ j (h1 : j < vs.toArray.size) (h2 : j < us.toArray.size), EqAt A.in1 s vs.toArray[j] us.toArray[j] (e j) := fun j h1 h2 => by
        obtain ⟨x, hx, ix⟩ := vals_back hvs (arr_get h1)
        obtain ⟨y, hy, iy⟩ := vals_back hus (arr_get h2)
        exact eqV_ok G S 3 x y _ _ _ A.in1 (he j x y hx hy) ix iy (by show A.units + 1 + 3 < cLine; omega)
      have z1 := RcAt.tuples (A := A) (e := e) l1 l2 (by omega) hi κ.prog κ.w E Q
      have z2 := RcNeAt.tuples (A := A) (e := e) l1 l2 (by omega) hi κ.prog κ.w E Q
      simp only [List.size_toArray, hvs.length, hus.length, hl, Nat.min_self, beq_self_eq_true, Bool.and_true] at z1 z2
      rw [hl]
      exact ⟨z1, z2⟩
    · cases h
  cases hv with
  | ref a =>
    cases hu with
    | ref c =>
      unfold eqT at h
      dsimp only at h
      split at h
      · rename_i es _ fs _ e1 e2
        obtain ⟨ka, d1, n1, _, hz1, lw1⟩ := look_sits G S e1
        obtain ⟨kb, d2, n2, _, hz2, lw2⟩ := look_sits G S e2
        have hc : A.units < cLine := by omega
        split at h
        · rename_i hl
          have hits : KeqHits A.in1 s kb ka b := dictEq_hits (fun x y b v u e iv iu => eqV_ok G S 3 x y b v u A.in1 e iv iu (by show A.units + 1 + 3 < cLine; omega)) n2 n1 h
          have hlen : (ka.length == kb.length) = true := by rw [n1.length, n2.length, hl]; exact beq_self_eq_true _
          refine ⟨fun q => keq_eq lw1 lw2 d1.dictOf d2.dictOf hc (fun _ => hits) ?_, fun q => keq_ne lw1 lw2 d1.dictOf d2.dictOf hc (fun _ => hits) ?_⟩
          · rw [hlen, Bool.true_and]; exact q
          · rw [hlen, Bool.true_and]; exact q
        · rename_i hl
          cases h
          have hlen : (ka.length == kb.length) = false := by rw [n1.length, n2.length]; exact beq_eq_false_iff_ne.mpr hl
          have hne : ka.length ≠ kb.length := by rw [n1.length, n2.length]; exact hl
          refine ⟨fun q => keq_eq (r := true) lw1 lw2 d1.dictOf d2.dictOf hc (fun e => absurd e hne) ?_, fun q => keq_ne (r := true) lw1 lw2 d1.dictOf d2.dictOf hc (fun e => absurd e hne) ?_⟩
          · rw [hlen, Bool.false_and]; exact q
          · rw [hlen, Bool.false_and]; exact q
      · have h0 := h
        unfold eqV at h
        split at h
        · rename_i e1 e2
          exact lists _ _ _ _ _ _ e1 e2 h0
        · rename_i e1 e2
          exact tups _ _ _ _ e1 e2 h0
        · rename_i hno _ _ _ _ _ _ e1 e2
          exact (hno _ _ _ _ e1 e2).elim
        · cases h
    | _ => simp [eqT, eqV] at h
  | bool a =>
    cases hu with
    | bool c => simp [eqT, eqV] at h; subst h; exact ⟨RcAt.bool_bool a c κ.prog κ.w E Q, RcNeAt.bool_bool a c κ.prog κ.w E Q⟩
    | _ => simp [eqT, eqV] at h
  | int a t =>
    cases hu with
    | int c u => cases h; exact ⟨fun q => P.eq_int q, fun q => P.ne_int q⟩
    | _ => simp [eqT, eqV] at h
  | str a t =>
    cases hu with
    | str c u =>
      cases h
      exact ⟨fun q => P.eq_str (by rw [str_beq]; exact q), fun q => P.ne_str (by rw [bne, str_beq]; exact q)⟩
    | _ => simp [eqT, eqV] at h
  | bytes a t =>
    cases hu with
    | bytes c u => cases h; exact ⟨fun q => W.eq_bytes q, fun q => W.ne_bytes q⟩
    | _ => simp [eqT, eqV] at h
  | none => cases hu <;> simp [eqT, eqV] at h
end Mine
namespace Mine
variable {κ : Kx} {Γ : Gx} {meths : List (PySem.Str × Addr)} {d : Nat} {env : Env} {vars : List (PySem.Str × Loc)}
noncomputable def cOp : CmpOp → Op
  | .Eq => .eq | .NotEq => .ne | .Lt => .lt | .LtE => .le | .Gt => .gt | .GtE => .ge | .In => .isIn | .NotIn => .notIn | .Is => .is | .IsNot => .isNot
noncomputable def eqB : Value → V → Bool
  | .bool a, .bool b => a == b
  | .int a _, .int b => a == b
  | .str a _, .str b => a == b
  | .bytes a _, .bytes b => a.toList == b.toList
  | _, _ => false
theorem eqB_of {v : Value} {y x : V} {b : Bool} {L : Addr → Option AO} (hv : Is v y) (h : eqV L 0 y x = some b) : eqB v x = b := by
  cases hv <;> cases x <;> first
    | (exfalso; simp [eqV] at h; done)
    | (cases h; rfl)
theorem eqV0 (L L' : Addr → Option AO) (x y : V) : eqV L 0 x y = eqV L' 0 x y := by
  cases x <;> cases y <;> rfl
theorem memV_spec {x : V} : ∀ {xs : List V} {vs : List Value} {b : Bool}, Vals vs xs → memV x xs = some b → (∀ v ∈ vs, ∃ y, Is v y ∧ ∃ e, eqV (fun _ => none) 0 y x = some e) ∧ vs.any (fun v => eqB v x) = b := by
  intro xs vs b hv
  induction hv generalizing b with
  | nil => intro h; cases h; exact ⟨(fun v h => nomatch h), rfl⟩
  | cons h1 _ ih =>
    intro h
    unfold memV at h
    split at h
    · rename_i a c e1 e2
      cases h
      obtain ⟨i1, i2⟩ := ih e2
      refine ⟨fun v hm => ?_, by rw [List.any_cons, eqB_of h1 e1, i2]⟩
      rcases List.mem_cons.mp hm with rfl | hm
      · exact ⟨_, h1, _, e1⟩
      · exact i1 v hm
    · cases h
theorem isInt_is {k : Int} {t : Tok} : Value.isInt k (.int k t) = true := by simp [Value.isInt]
theorem op_ok (G : GOk κ Γ meths d) {σ : Sto} {s : Shared} (S : St κ σ s) {A : Around} (r : Room A d) {op : CmpOp} {x y : V} {v u : Value} {q : Bool → Sto → Prop} (h : opW Γ (cOp op) x y q σ) (hv : Is v x) (hu : Is u y) :
    wpAny (model κ.prog κ.w) A (compareOp op v u) (After κ [] σ s (fun z σ' => ∃ t, z = .bool t ∧ q t σ')) noE s := by
  have hin : ∀ b, inV (look Γ σ) x y = some b → (∀ Q : Value → Shared → Prop, (∀ tk, Q (.bool b) { s with toks := tk }) → wpAny (model κ.prog κ.w) A (compareOp .In v u) Q noE s) ∧
      (∀ Q : Value → Shared → Prop, (∀ tk, Q (.bool !b) { s with toks := tk }) → wpAny (model κ.prog κ.w) A (compareOp .NotIn v u) Q noE s) := by
    intro b hb
    have seq : ∀ (vs : List Value) (xs : List V), Vals vs xs → memV x xs = some b → (∀ w, w ∈ vs.toArray → EqAt A.in1 s w v (eqB w x)) ∧ vs.toArray.any (fun w => eqB w x) = b := by
      intro vs xs hvs hm
      obtain ⟨i1, i2⟩ := memV_spec hvs hm
      refine ⟨fun w hw => ?_, by simpa using i2⟩
      obtain ⟨y', iy, e, he⟩ := i1 w (by simpa using hw)
      rw [eqB_of iy he]
      exact eqV_ok G S 0 y' x e w v A.in1 (by rw [eqV0 _ (fun _ => none)]; exact he) iy hv (by have := r.units; show A.units + 1 + 0 < 9900; omega)
    cases hu with
    | ref a =>
      unfold inV at hb
      dsimp only at hb
      split at hb
      · rename_i m xs e
        obtain ⟨vs, k, o1, hvs, _⟩ := look_sits G S e
        have l1 : s.heap.IsList a vs.toArray := ⟨_, o1, rfl, _, rfl⟩
        obtain ⟨j1, j2⟩ := seq vs xs hvs hb
        exact ⟨fun Q hq => in_listAt _ l1 j1 (by rw [j2]; exact hq s.toks), fun Q hq => notIn_listAt _ l1 j1 (by rw [j2]; exact hq s.toks)⟩
      · rename_i xs e
        obtain ⟨vs, l1, hvs⟩ := look_sits G S e
        obtain ⟨j1, j2⟩ := seq vs xs hvs hb
        exact ⟨fun Q hq => in_tupleAt _ l1 j1 (by rw [j2]; exact hq s.toks), fun Q hq => notIn_tupleAt _ l1 j1 (by rw [j2]; exact hq s.toks)⟩
      · rename_i es ep k e
        obtain ⟨ka, d1, n1, _, hz1, lw1⟩ := look_sits G S e
        cases hb
        cases hv with
        | int _ t =>
          have hb' : (valueAt ka k).isSome = (getE k es).isSome := by
            cases q : getE k es with
            | none => rw [(n1.valueAt k).1 q]; rfl
            | some z => obtain ⟨w, hw, _⟩ := (n1.valueAt k).2 z q; rw [hw]; rfl
          exact ⟨fun Q hq => wpAny_in_of (knd := intKind κ.prog κ.w) (k := k) (isInt_is (t := t)) lw1 d1.dictOf.mapOf (by rw [hb']; exact hq _), fun Q hq => wpAny_notIn_of (knd := intKind κ.prog κ.w) (k := k) (isInt_is (t := t)) lw1 d1.dictOf.mapOf (by rw [hb']; exact hq _)⟩
      · cases hb
    | _ => cases x <;> simp [inV] at hb
  cases op with
  | Eq => obtain ⟨b, e, hq⟩ := h; exact (eqT_ok G S r e hv hu).1 (After.now S ⟨b, rfl, hq⟩)
  | NotEq => obtain ⟨b, e, hq⟩ := h; exact (eqT_ok G S r e hv hu).2 (After.now S ⟨!b, rfl, hq⟩)
  | In => obtain ⟨b, e, hq⟩ := h; exact (hin b e).1 _ fun tk => After.tok S ⟨b, rfl, hq⟩
  | NotIn => obtain ⟨b, e, hq⟩ := h; exact (hin b e).2 _ fun tk => After.tok S ⟨!b, rfl, hq⟩
  | Lt =>
    cases x with
    | int i =>
      cases y with
      | int j => cases hv; cases hu; exact P.lt_int (After.now S ⟨_, rfl, h⟩)
      | _ => exact h.elim
    | _ => exact h.elim
  | LtE =>
    cases x with
    | int i =>
      cases y with
      | int j => cases hv; cases hu; exact P.le_int (After.now S ⟨_, rfl, h⟩)
      | _ => exact h.elim
    | _ => exact h.elim
  | Gt =>
    cases x with
    | int i =>
      cases y with
      | int j => cases hv; cases hu; exact P.gt_int (After.now S ⟨_, rfl, h⟩)
      | _ => exact h.elim
    | _ => exact h.elim
  | GtE =>
    cases x with
    | int i =>
      cases y with
      | int j => cases hv; cases hu; exact P.ge_int (After.now S ⟨_, rfl, h⟩)
      | _ => exact h.elim
    | _ => exact h.elim
  | Is =>
    cases y with
    | none => cases hu; cases hv <;> exact is_none (After.now S ⟨_, rfl, h⟩)
    | _ => first | exact h.elim | (cases x <;> exact h.elim)
  | IsNot =>
    cases y with
    | none => cases hu; cases hv <;> exact isNot_none (After.now S ⟨_, rfl, h⟩)
    | _ => first | exact h.elim | (cases x <;> exact h.elim)
theorem se_cmp (G : GOk κ Γ meths d) {op : CmpOp} {a b : PySem.Expr} {pos : Pos} {pa pb : PE} (hm : behindInMarks op b = false) (ha : SE κ d env vars a (wpE Γ pa)) (hb : SE κ d env vars b (wpE Γ pb)) :
    SE κ d env vars (.Compare a [op] [b] pos) (wpE Γ (.cmp (cOp op) pa pb)) := by
  rintro A s σ ε q r S F hq
  refine wpAny_Compare1 (wpAny_mono (ha A s σ ε _ r S F hq) (fun v s1 zz => ?_) fun _ _ z => z) hm
  obtain ⟨σ1, w1, S1, x, ix, q1⟩ := zz
  refine wpAny_mono (hb A s1 σ1 ε _ r S1 (F.keep w1.fut) q1) (fun u s2 zz => ?_) fun _ _ z => z
  obtain ⟨σ2, w2, S2, y, iy, q2⟩ := zz
  refine wpAny_mono (op_ok G S2 r q2 ix iy) (fun z s3 zz => ?_) fun _ _ z => z
  obtain ⟨σ3, w3, S3, t, e, q3⟩ := zz
  subst e
  exact ⟨σ3, (w1.trans w2).trans w3, S3, _, .bool t, q3⟩
theorem sc_cmp (G : GOk κ Γ meths d) {op : CmpOp} {a b : PySem.Expr} {pos : Pos} {pa pb : PE} (hm : behindInMarks op b = false) (ha : SE κ d env vars a (wpE Γ pa)) (hb : SE κ d env vars b (wpE Γ pb)) :
    SC κ d env vars (.Compare a [op] [b] pos) (wpC Γ (.cmp (cOp op) pa pb)) := by
  rintro A s σ ε q r S F hq
  refine wpAny_isTrue_Compare1 (wpAny_mono (ha A s σ ε _ r S F hq) (fun v s1 zz => ?_) fun _ _ z => z) hm
  obtain ⟨σ1, w1, S1, x, ix, q1⟩ := zz
  refine wpAny_mono (hb A s1 σ1 ε _ r S1 (F.keep w1.fut) q1) (fun u s2 zz => ?_) fun _ _ z => z
  obtain ⟨σ2, w2, S2, y, iy, q2⟩ := zz
  refine wpAny_mono (op_ok G S2 r q2 ix iy) (fun z s3 zz => ?_) fun _ _ z => z
  obtain ⟨σ3, w3, S3, t, e, q3⟩ := zz
  subst e
  exact wpAny_truthy_bool ⟨σ3, (w1.trans w2).trans w3, S3, q3⟩
theorem se_and (G : GOk κ Γ meths d) {a b : PySem.Expr} {pos : Pos} {pa pb : PE} (ha : SE κ d env vars a (wpE Γ pa)) (hb : SE κ d env vars b (wpE Γ pb)) : SE κ d env vars (.BoolOp .And [a, b] pos) (wpE Γ (.and pa pb)) := by
  rintro A s σ ε q r S F hq
  refine wpAny_And2 (wpAny_mono (ha A s σ ε _ r S F hq) (fun v s1 zz => ?_) fun _ _ z => z)
  obtain ⟨σ1, w1, S1, x, ix, t, ht, q1⟩ := zz
  refine wpAny_mono (truth_ok G (A := A) (q := fun t' σ' => t' = t ∧ σ' = σ1) S1 ix ht ⟨rfl, rfl⟩) (fun t' s2 zz => ?_) fun _ _ z => z
  obtain ⟨σ2, w2, S2, e1, e2⟩ := zz
  subst e1 e2
  cases t' with
  | true => exact Goes.up (w1.trans w2) (hb A s2 σ2 ε q r S2 (F.keep (w1.trans w2).fut) q1)
  | false => exact ⟨σ2, w1.trans w2, S2, x, ix, q1⟩
theorem sc_val (G : GOk κ Γ meths d) {e : PySem.Expr} {pe : PE} (he : ∀ whole, isTrue e env whole = (do let v ← whole; standAt e.pos; holding [v] (truthy v))) (h : SE κ d env vars e (wpE Γ pe)) : SC κ d env vars e (wpC Γ (.val pe)) := by
  rintro A s σ ε q r S F hq
  refine wpAny_isTrue_value (wpAny_mono (h A s σ ε _ r S F hq) (fun v s1 zz => ?_) fun _ _ z => z) (he _)
  obtain ⟨σ1, w1, S1, x, ix, t, ht, q1⟩ := zz
  exact Goes.up w1 (truth_ok G S1 ix ht q1)
end Mine
end
section
open PySem PySem.W PyProof.Rows PySem.SeqAt
set_option Elab.async false
set_option maxRecDepth 100000
namespace Mine
variable {κ : Kx} {Γ : Gx} {meths : List (PySem.Str × Addr)} {d : Nat} {env : Env} {vars : List (PySem.Str × Loc)}
theorem add_ok (G : GOk κ Γ meths d) {σ : Sto} {s : Shared} (S : St κ σ s) {A : Around} {x y : V} {v u : Value} {q : Post} (h : addW Γ x y q σ) (hv : Is v x) (hu : Is u y) :
    Goes κ [] A (binaryOp .Add v u) σ s (fun v σ' => ∃ x, Is v x ∧ q x σ') := by
  cases hv with
  | int a t =>
    cases hu with
    | int b u => exact P.add_int (After.tok S ⟨_, .int _ _, h⟩)
    | _ => exact h.elim
  | bytes a t =>
    cases hu with
    | bytes b u => exact KBy.add_bytes (by have := h.1; omega) fun t' k => After.tok S ⟨_, .bytes _ _, h.2⟩
    | _ => exact h.elim
  | ref a =>
    cases hu with
    | ref b =>
      obtain ⟨m, xs, m', ys, e1, e2, hz, hq⟩ := h
      obtain ⟨vs, k, o1, hvs, _⟩ := look_sits G S e1
      obtain ⟨us, k', o2, hus, _⟩ := look_sits G S e2
      have hz' : vs.toArray.size + us.toArray.size ≤ sizeLine := by rw [List.size_toArray, List.size_toArray, hvs.length, hus.length, sizeLine_eq]; omega
      refine concat_meets ⟨_, o1, rfl⟩ ⟨_, o2, rfl⟩ noFill_list_add seq_list_add PySem.F.slot_list_add PySem.F.entry_list_add (PySem.F.args_list_add_2 _ _) (list_addW a b vs.toArray us.toArray k k' none none #[] #[] hz') ⟨o1, o2, ?_⟩
      have e : vs.toArray ++ us.toArray = (vs ++ us).toArray := by simp
      rw [e]
      exact after_new G S (seq_sits (hvs.append hus) (S.base_none (fresh_none _)) (by rw [List.length_append]; omega)) hq
    | _ => exact h.elim
  | _ => cases hu <;> exact h.elim
theorem se_add (G : GOk κ Γ meths d) {a b : PySem.Expr} {pos : Pos} {pa pb : PE} (ha : SE κ d env vars a (wpE Γ pa)) (hb : SE κ d env vars b (wpE Γ pb)) : SE κ d env vars (.BinOp a .Add b pos) (wpE Γ (.add pa pb)) := by
  rintro A s σ ε q r S F hq
  refine wpAny_BinOp (wpAny_mono (ha A s σ ε _ r S F hq) (fun v s1 zz => ?_) fun _ _ z => z)
  obtain ⟨σ1, w1, S1, x, ix, q1⟩ := zz
  refine wpAny_mono (hb A s1 σ1 ε _ r S1 (F.keep w1.fut) q1) (fun u s2 zz => ?_) fun _ _ z => z
  obtain ⟨σ2, w2, S2, y, iy, q2⟩ := zz
  exact Goes.up (w1.trans w2) (add_ok G S2 q2 ix iy)
theorem get_back {vs : List Value} {xs : List V} {i : Nat} {x : V} (h : Vals vs xs) (e : xs[i]? = some x) : ∃ v, vs.toArray[i]? = some v ∧ Is v x := by
  obtain ⟨v, hv, iv⟩ := h.get e
  exact ⟨v, by simpa using hv, iv⟩
theorem sub_ok (G : GOk κ Γ meths d) {σ : Sto} {s : Shared} (S : St κ σ s) {A : Around} {x y : V} {v u : Value} {q : Post} {value slice : PySem.Expr} (hsl : ∀ o i, subscripted slice false o i = operate [o, i] (getItem o i))
    (h : subW Γ x y q σ) (hv : Is v x) (hu : Is u y) : Goes κ [] A (subscriptTail value slice v u) σ s (fun v σ' => ∃ x, Is v x ∧ q x σ') := by
  cases hv with
  | ref a =>
    cases hu with
    | int k t =>
      unfold subW at h
      dsimp only at h
      split at h
      · rename_i m xs e
        obtain ⟨h0, h1, z, hz, hq⟩ := h
        obtain ⟨vs, n, o1, hvs, _⟩ := look_sits G S e
        obtain ⟨w, hw, iw⟩ := get_back hvs hz
        have l1 : s.heap.IsList a vs.toArray := ⟨_, o1, rfl, _, rfl⟩
        exact tail_any l1.typeIs slot_list_getitem.lookup (wpAny_getItem_list l1 h0 (by unfold big at h1; omega) hw (After.now S ⟨z, iw, hq⟩)) (hsl _ _)
      · rename_i xs e
        obtain ⟨h0, h1, z, hz, hq⟩ := h
        obtain ⟨vs, l1, hvs⟩ := look_sits G S e
        obtain ⟨w, hw, iw⟩ := get_back hvs hz
        have hlt : k.toNat < vs.toArray.size := (Array.getElem?_eq_some_iff.mp hw).1
        have hk : seqIndex? k vs.toArray.size = some k.toNat := seqIndex_of h0 (by omega)
        exact tail_any l1.typeIs PySem.F.slot_tuple_getitem.lookup (getItem_tuple l1 (by omega) (by unfold big at h1; omega) hk hw (After.now S ⟨z, iw, hq⟩)) (hsl _ _)
      · rename_i es ep e
        obtain ⟨z, hz, hq⟩ := h
        obtain ⟨ka, d1, n1, _, hz1, lw1⟩ := look_sits G S e
        obtain ⟨w, hw, iw⟩ := (n1.valueAt k).2 z hz
        exact tail_any d1.dictOf.typeIs slot_dict_getitem.lookup (wpAny_getItem_of (knd := intKind κ.prog κ.w) (k := k) (isInt_is (t := t)) d1.dictOf.mapOf hw (After.tok S ⟨z, iw, hq⟩)) (hsl _ _)
      · exact h.elim
    | _ => exact h.elim
  | _ => cases hu <;> exact h.elim
theorem se_sub (G : GOk κ Γ meths d) {a i : PySem.Expr} {pos : Pos} {pa pi : PE} (hsl : ∀ o v, subscripted i false o v = operate [o, v] (getItem o v)) (ha : SE κ d env vars a (wpE Γ pa)) (hi : SE κ d env vars i (wpE Γ pi)) :
    SE κ d env vars (.Subscript a i pos) (wpE Γ (.sub pa pi)) := by
  rintro A s σ ε q r S F hq
  refine Subscript_ (wpAny_mono (ha A s σ ε _ r S F hq) (fun v s1 zz => ?_) fun _ _ z => z)
  obtain ⟨σ1, w1, S1, x, ix, q1⟩ := zz
  refine wpAny_mono (hi A s1 σ1 ε _ r S1 (F.keep w1.fut) q1) (fun u s2 zz => ?_) fun _ _ z => z
  obtain ⟨σ2, w2, S2, y, iy, q2⟩ := zz
  exact Goes.up (w1.trans w2) (sub_ok G S2 hsl q2 ix iy)
theorem Vals.take {vs : List Value} {xs : List V} (h : Vals vs xs) : ∀ n : Nat, Vals (vs.take n) (xs.take n) := by
  induction h with
  | nil => intro n; simp; exact .nil
  | cons h1 _ ih => intro n; cases n with | zero => exact .nil | succ n => exact .cons h1 (ih n)
theorem Vals.drop {vs : List Value} {xs : List V} (h : Vals vs xs) : ∀ n : Nat, Vals (vs.drop n) (xs.drop n) := by
  induction h with
  | nil => intro n; simp; exact .nil
  | cons h1 h2 ih => intro n; cases n with | zero => exact .cons h1 h2 | succ n => exact ih n
theorem after_cut (G : GOk κ Γ meths d) {σ : Sto} {s : Shared} (S : St κ σ s) {ob : Obj} {zs : Array Value} {vs : List Value} {xs : List V} {q : Post} (hz : zs = vs.toArray) (hv : Vals vs xs) (hl : xs.length ≤ 1000000)
    (h : ∀ l, New Γ σ l → q (.ref l) (σ.set l (.list true xs))) : After κ [] σ s (fun v σ' => ∃ x, Is v x ∧ q x σ') (.ref (s.heap.objs.size + 1)) { s with heap := (s.heap.push ob).push { cls := .type "list", data := .seq zs } } := by
  have S1 : St κ σ { s with heap := s.heap.push ob } := S.aside G.ok (tk := s.toks) fun b o e _ => Heap.get?_push_of_some _ e
  have w1 : Way [] σ s σ { s with heap := s.heap.push ob } := Way.of' ⟨fun b o e _ _ => Heap.get?_push_of_some _ e, fun _ e => .inl e⟩
  have z := after_new G S1 (ob := { cls := .type "list", data := .seq zs }) (ao := .list true xs) (q := q) (by rw [hz]; exact seq_sits hv (S1.base_none (fresh_none _)) hl) h
  have e : (s.heap.push ob).objs.size = s.heap.objs.size + 1 := Heap.size_push _ _
  have z' := After.up w1 z
  simp only [e] at z'
  exact z'
theorem se_upto (G : GOk κ Γ meths d) {a hi : PySem.Expr} {p pos : Pos} {pa ph : PE} (ht : ∀ o r, letTemporaryGo a o r = pure ()) (ha : SE κ d env vars a (wpE Γ pa)) (hh : SE κ d env vars hi (wpE Γ ph)) :
    SE κ d env vars (.Subscript a (.Slice none (some hi) none p) pos) (wpE Γ (.upto pa ph)) := by
  rintro A s σ ε q r S F hq
  refine wpAny_Subscript_list_slice (wpAny_mono (ha A s σ ε _ r S F hq) (fun v s1 zz => ?_) fun _ _ z => z) ht
  obtain ⟨σ1, w1, S1, x, ix, q1⟩ := zz
  rw [evalPart_none, evalPart_some]
  refine wpAny_pure (wpAny_mono (hh A s1 σ1 ε _ r S1 (F.keep w1.fut) q1) (fun u s2 zz => ?_) fun _ _ z => z)
  obtain ⟨σ2, w2, S2, y, iy, q2⟩ := zz
  cases ix with
  | ref l =>
    cases iy with
    | int k t =>
      obtain ⟨h0, m, xs, e, hq2⟩ := q2
      obtain ⟨vs, n, o1, hvs, _, hz⟩ := look_sits G S2 e
      refine ⟨l, vs.toArray, none, some k, rfl, ⟨_, o1, rfl, _, rfl⟩, by rw [List.size_toArray, hvs.length, sizeLine_eq]; omega, .none, .int k t, ?_⟩
      refine After.up (w1.trans w2) (after_cut G S2 (vs := vs.take k.toNat) ?_ (hvs.take _) (by rw [List.length_take]; omega) hq2)
      rw [kms_pick_eq]
      unfold kms_pick kms_lo kms_hi
      simp only [if_neg (show ¬ k < 0 by omega)]
      simp [kmk_take_min]
    | _ => exact q2.elim
  | _ => cases iy <;> exact q2.elim
theorem se_from (G : GOk κ Γ meths d) {a lo : PySem.Expr} {p pos : Pos} {pa pl : PE} (ht : ∀ o r, letTemporaryGo a o r = pure ()) (ha : SE κ d env vars a (wpE Γ pa)) (hh : SE κ d env vars lo (wpE Γ pl)) :
    SE κ d env vars (.Subscript a (.Slice (some lo) none none p) pos) (wpE Γ (.from_ pa pl)) := by
  rintro A s σ ε q r S F hq
  refine wpAny_Subscript_list_slice (wpAny_mono (ha A s σ ε _ r S F hq) (fun v s1 zz => ?_) fun _ _ z => z) ht
  obtain ⟨σ1, w1, S1, x, ix, q1⟩ := zz
  rw [evalPart_none, evalPart_some]
  refine wpAny_mono (hh A s1 σ1 ε _ r S1 (F.keep w1.fut) q1) (fun u s2 zz => ?_) fun _ _ z => z
  obtain ⟨σ2, w2, S2, y, iy, q2⟩ := zz
  refine wpAny_pure ?_
  cases ix with
  | ref l =>
    cases iy with
    | int k t =>
      obtain ⟨h0, m, xs, e, hq2⟩ := q2
      obtain ⟨vs, n, o1, hvs, _, hz⟩ := look_sits G S2 e
      refine ⟨l, vs.toArray, some k, none, rfl, ⟨_, o1, rfl, _, rfl⟩, by rw [List.size_toArray, hvs.length, sizeLine_eq]; omega, .int k t, .none, ?_⟩
      refine After.up (w1.trans w2) (after_cut G S2 (vs := vs.drop k.toNat) ?_ (hvs.drop _) (by rw [List.length_drop]; omega) hq2)
      rw [kms_pick_eq]
      unfold kms_pick kms_lo kms_hi
      simp only [if_neg (show ¬ k < 0 by omega)]
      show ((vs.drop (min k.toNat vs.length)).take (vs.length - min k.toNat vs.length)).toArray = _
      rw [kmk_drop_min, List.take_of_length_le (by rw [List.length_drop]; omega)]
    | _ => exact q2.elim
  | _ => cases iy <;> exact q2.elim
end Mine
end
section
open PySem PySem.W PyProof.Rows PySem.SeqAt
set_option Elab.async false
set_option maxRecDepth 100000
namespace Mine
variable {κ : Kx} {Γ : Gx} {meths : List (PySem.Str × Addr)} {d : Nat} {env : Env} {vars : List (PySem.Str × Loc)}
theorem after_made (G : GOk κ Γ meths d) {σ : Sto} {s : Shared} (S : St κ σ s) {a : Addr} {h' : Heap} {tk : Nat} {ao : AO} {q : Post} (ha : s.heap.get? a = none) (k : ∀ b o, s.heap.get? b = some o → h'.get? b = some o)
    (hn : Sits κ (σ.set a ao) h' a ao) (h : ∀ l, New Γ σ l → q (.ref l) (σ.set l ao)) : After κ [] σ s (fun v σ' => ∃ x, Is v x ∧ q x σ') (.ref a) { s with heap := h', toks := tk } := by
  obtain ⟨x, y⟩ := S.more G.ok (tk := tk) ha k hn
  exact ⟨_, Way.of y, x, _, .ref _, h _ (new_of G S ha)⟩
theorem after_kept (G : GOk κ Γ meths d) {σ : Sto} {s : Shared} (S : St κ σ s) {h' : Heap} {tk : Nat} {α : Type} {v : α} {Q : α → Sto → Prop} (k : ∀ b o, s.heap.get? b = some o → h'.get? b = some o) (h : Q v σ) : After κ [] σ s Q v { s with heap := h', toks := tk } :=
  ⟨σ, Way.of ⟨fun b o e _ _ => k b o e, fun _ e => .inl e⟩, S.aside G.ok fun b o e _ => k b o e, h⟩
theorem ints_are {vs : List Value} {xs : List V} (h : Vals vs xs) : ∀ {ks : List Int}, intsOf xs = some ks → IntsAre vs ks := by
  induction h with
  | nil => intro ks e; cases e; exact .nil
  | @cons v x vs xs hv _ ih =>
    intro ks e
    cases hv with
    | int i t =>
      unfold intsOf at e
      cases q : intsOf xs with
      | none => rw [q] at e; cases e
      | some ks' => rw [q] at e; cases e; exact .cons _ _ (ih q)
    | _ => cases e
theorem ints_vals {vs : List Value} {ks : List Int} (h : IntsAre vs ks) : Vals vs (ks.map .int) := by
  induction h with
  | nil => exact .nil
  | cons _ _ _ ih => exact .cons (.int _ _) ih
theorem intsOf_map (ks : List Int) : intsOf (ks.map .int) = some ks := by
  induction ks with
  | nil => rfl
  | cons k ks ih => show (intsOf (ks.map .int)).map (k :: ·) = _; rw [ih]; rfl
theorem sortI_of {ns ns' : List Int} (p : ns'.Perm ns) (w : ns'.Pairwise (· ≤ ·)) : ns' = sortI ns := by
  have h1 : (sortI ns).Perm ns := List.mergeSort_perm ns _
  have h2 : (sortI ns).Pairwise fun a b => decide (a ≤ b) = true := List.pairwise_mergeSort (fun a b c x y => by simp at *; omega) (fun a b => by simp; omega) ns
  exact List.Perm.eq_of_pairwise (le := fun a b => a ≤ b) (fun _ _ _ _ a b => Int.le_antisymm a b) w (h2.imp fun x => by simpa using x) (p.trans h1.symm)
theorem keys_are {kvs : List (Int × Value)} {acc : Array Value} (h : ItemsOf (fun i v => ∃ k x, kvs[i]? = some (k, x) ∧ (intKind κ.prog κ.w).is k v = true) acc kvs.length) : IntsAre acc.toList (kvs.map (·.1)) := by
  have key : ∀ (l : List Value) (ks : List Int), l.length = ks.length → (∀ (j : Nat) (v : Value), l[j]? = some v → ∃ k t, ks[j]? = some k ∧ v = .int k t) → IntsAre l ks := by
    intro l
    induction l with
    | nil => intro ks e _; cases ks with | nil => exact .nil | cons => cases e
    | cons v l ih =>
      intro ks e hj
      cases ks with
      | nil => cases e
      | cons k ks =>
        obtain ⟨k', t, e1, rfl⟩ := hj 0 v rfl
        simp at e1; subst e1
        exact .cons _ _ (ih ks (by simpa using e) fun j u hu => by simpa using hj (j + 1) u (by simpa using hu))
  refine key _ _ (by simp [h.1]) fun j v hv => ?_
  obtain ⟨k, x, e, hk⟩ := h.2 j v (by simpa using hv)
  obtain ⟨t, rfl⟩ := Value.isInt_shape hk
  exact ⟨k, t, by simp [e], rfl⟩
theorem Ents.keys {kvs : List (Int × Value)} {es : List (Int × V)} (h : Ents kvs es) : kvs.map (·.1) = es.map (·.1) := by
  induction h with
  | nil => rfl
  | cons _ _ ih => simp [ih]
theorem keysOf_ints {es : List (Int × V)} {ks : List Int} (h : intsOf (es.map fun p => V.int p.1) = some ks) : ks = es.map (·.1) := by
  have := intsOf_map (es.map (·.1))
  rw [List.map_map] at this
  have e2 : (V.int ∘ fun x : Int × V => x.1) = fun p : Int × V => V.int p.1 := rfl
  rw [e2, h] at this
  exact Option.some.inj this
theorem sorted_list {A : Around} {σ : Sto} {s : Shared} (G : GOk κ Γ meths d) (S : St κ σ s) {l : Addr} {vs : List Value} {ns : List Int} {q : Post} (hl : s.heap.IsList l vs.toArray) (hI : IntsAre vs ns) (hz : ns.length ≤ 60)
    (h : ∀ l, New Γ σ l → q (.ref l) (σ.set l (.list true ((sortI ns).map .int)))) : Goes κ [] A (call (.builtin "sorted") [.ref l]) σ s (fun v σ' => ∃ x, Is v x ∧ q x σ') := by
  have hlen := hI.length
  refine sorted_ints hl hI (by omega) fun out ns' a1 a2 a3 => ?_
  obtain ⟨e, he⟩ := sortedAll_at s.heap vs out
  have hfr : s.heap.get? (s.heap.objs.size + 1) = none := by
    cases q : s.heap.get? (s.heap.objs.size + 1) with
    | none => rfl
    | some o => exact absurd (Nat.lt_trans (Nat.lt_succ_self _) (Heap.lt_size q)) (Nat.lt_irrefl _)
  refine after_made (tk := s.toks) (ao := .list true ((sortI ns).map .int)) G S hfr (fun _ _ => sortedAll_old) ⟨out.toList, e, he, ?_, fun _ => S.base_none hfr, ?_⟩ h
  · rw [← sortI_of a2 a3]; exact ints_vals a1
  · rw [List.length_map, ← sortI_of a2 a3, a2.length_eq]; omega
theorem sorted_dict {A : Around} {σ : Sto} {s : Shared} (G : GOk κ Γ meths d) (S : St κ σ s) (hh : A.handled = none) {a : Addr} {kvs : List (Int × Value)} {ep : Nat} {q : Post} (hd : s.heap.DictAt (intKind κ.prog κ.w) a kvs ep) (lo : (a == sysModules) = false) (hz : kvs.length ≤ 60)
    (h : ∀ l, New Γ σ l → q (.ref l) (σ.set l (.list true ((sortI (kvs.map (·.1))).map .int)))) : Goes κ [] A (call (.builtin "sorted") [.ref a]) σ s (fun v σ' => ∃ x, Is v x ∧ q x σ') := by
  refine Calls.call_function_entry kind_sorted plain_sorted entry_sorted (args_sorted1 _) ?_
  unfold Builtin.«sorted»
  refine wpAny_bind (m := checkCount "sorted" 1 1 _) (wpAny_pure ?_)
  refine wpAny_bind (kdu_collect (A := A.in1) (kdl_dict (knd := intKind κ.prog κ.w) (kvs := kvs) (ep := ep) lo) hh hd (by rw [sizeLine_eq]; omega) fun h' tk acc hk hacc => ?_)
  have hI := keys_are hacc
  have hl : acc.toList.length = kvs.length := by rw [Array.length_toList]; exact hacc.1
  refine wpAny_bind (wpAny_newList ?_ (by rw [hl, sizeLine_eq]; omega))
  have ho : (h'.push { cls := .type "list", data := .seq acc.toList.toArray }).get? h'.objs.size = some (seqObj "list" acc.toList.toArray 0) := Heap.get?_push_size _ rfl
  have hfr : s.heap.get? h'.objs.size = none := by
    cases q : s.heap.get? h'.objs.size with
    | none => rfl
    | some o => exact absurd (Heap.lt_size (hk _ _ q)) (Nat.lt_irrefl _)
  refine wpAny_bind (wpAny_holding (wpAny_call_entry slot_list_sort ⟨_, ho, rfl⟩ entry_list_sort (list_sort_tree ho hI (by rw [hl]; omega) fun out ns' a1 a2 a3 => ⟨_, rfl, ?_⟩) (args_list_sort _)))
  refine wpAny_pure ⟨_, rfl, ?_⟩
  obtain ⟨e, he⟩ := sortedHeap_at (vs := acc.toList) (out := out) ho
  refine after_made (tk := tk) (ao := .list true ((sortI (kvs.map (·.1))).map .int)) G S hfr (fun b o eb => ?_) ⟨out.toList, e, he, ?_, fun _ => S.base_none hfr, ?_⟩ h
  · have hlt := Heap.lt_size (hk _ _ eb)
    rw [sortedHeap_old (Nat.ne_of_lt hlt) (by rw [Heap.size_push]; exact Nat.lt_succ_of_lt hlt)]
    exact Heap.get?_push_of_some _ (hk _ _ eb)
  · rw [← sortI_of a2 a3]; exact ints_vals a1
  · rw [List.length_map, ← sortI_of a2 a3, a2.length_eq, List.length_map]; omega
theorem best_max : ∀ (f : Nat → Int) (n : Nat), f (argBest (fun i j => decide (f i > f j)) n) = (List.range n).foldl (fun a i => max a (f (i + 1))) (f 0) := by
  intro f n
  induction n with
  | zero => rfl
  | succ n ih =>
    rw [List.range_succ, List.foldl_append]
    show f (if decide (f (n + 1) > f (argBest _ n)) = true then n + 1 else argBest _ n) = max _ (f (n + 1))
    rw [← ih]
    generalize argBest (fun i j => decide (f i > f j)) n = m
    by_cases h : f (n + 1) > f m
    · rw [if_pos (by simpa using h), Int.max_eq_right (Int.le_of_lt h)]
    · rw [if_neg (by simpa using h), Int.max_eq_left (Int.not_lt.mp h)]
theorem best_of {ns : List Int} {k : Int} {ks : List Int} (e : ns = k :: ks) : ns.getD (argBest (fun i j => decide (ns.getD i 0 > ns.getD j 0)) (ns.length - 1)) 0 = ks.foldl max k := by
  have := best_max (fun i => ns.getD i 0) (ns.length - 1)
  rw [this]
  subst e
  show (List.range ks.length).foldl (fun a i => max a (((k :: ks).getD (i + 1)) 0)) k = _
  have key : ∀ (ks : List Int) (k : Int), (List.range ks.length).foldl (fun a i => max a (ks.getD i 0)) k = ks.foldl max k := by
    intro ks
    induction ks with
    | nil => intro k; rfl
    | cons a ks ih =>
      intro k
      rw [List.length_cons, List.range_succ_eq_map, List.foldl_cons, List.foldl_map]
      exact ih (max k a)
  exact key ks k
theorem max_ok {A : Around} {σ : Sto} {s : Shared} (G : GOk κ Γ meths d) (S : St κ σ s) (hh : A.handled = none) {T : String} {r d' : Addr} {P : Nat → Value → Prop} {OK : Heap → Prop} {ns : List Int} {k : Int} {ks : List Int} {q : Post} (K : KdlSrc κ.prog κ.w T r d' ns.length P OK) (ok : OK s.heap)
    (hP : ∀ i v, P i v → ∃ t, v = .int (ns.getD i 0) t) (e : ns = k :: ks) (h : q (.int (ks.foldl max k)) σ) : Goes κ [] A (call (.builtin "max") [.ref r]) σ s (fun v σ' => ∃ x, Is v x ∧ q x σ') := by
  refine call_max_walk ?_
  obtain ⟨oI, St, hit, W, st⟩ := K.iter A.in1 s hh ok
  refine hit _ _ ⟨s.heap.objs.size, _, _, ns.length, P, _, _, rfl, W, st, fun b hb => ?_, by rw [e]; exact Nat.succ_pos _, CmpOf.ints_gt (fun i => ns.getD i 0) hP, fun v h' tk hv hk => ?_⟩
  · show b < (s.heap.push oI).objs.size
    rw [size_push']
    rcases List.mem_cons.mp hb with e | hb
    · rw [e]; exact Nat.lt_succ_self _
    · rw [List.mem_singleton.mp hb]; exact Nat.lt_succ_of_lt (K.there _ ok).2
  · obtain ⟨t, rfl⟩ := hP _ _ hv
    rw [best_of e]
    exact after_kept G S (tk := tk) (fun b o eb => hk b o (fun hI => absurd (Heap.lt_size eb) (by rw [List.mem_singleton.mp hI]; exact Nat.lt_irrefl _)) (Heap.get?_push_of_some _ eb)) ⟨_, .int _ _, h⟩
end Mine
end
section
open PySem PySem.W PyProof.Rows PySem.SeqAt
set_option Elab.async false
set_option maxRecDepth 100000
namespace Mine
variable {κ : Kx} {Γ : Gx} {meths : List (PySem.Str × Addr)} {d : Nat} {env : Env} {vars : List (PySem.Str × Loc)}
theorem putE_len (k : Int) (x : V) : ∀ es : List (Int × V), (putE k x es).length ≤ es.length + 1
  | [] => Nat.le_refl _
  | p :: r => by
    unfold putE
    split
    · simp
    · have := putE_len k x r; simp; omega
theorem Ents.map_same {kvs : List (Int × Value)} {es : List (Int × V)} {k : Int} {v : Value} (h : Ents kvs es) (hn : k ∉ kvs.map (·.1)) : kvs.map (fun kv => if kv.1 = k then (kv.1, v) else kv) = kvs := by
  induction h with
  | nil => rfl
  | @cons k' u x es fs _ _ ih =>
    simp only [List.map_cons, List.mem_cons, not_or] at hn
    rw [List.map_cons, ih hn.2, if_neg (fun e => hn.1 e.symm)]
theorem Ents.stored {kvs : List (Int × Value)} {es : List (Int × V)} {k : Int} {v : Value} {x : V} (h : Ents kvs es) (hn : (kvs.map (·.1)).Nodup) (hv : Is v x) : Ents (stored kvs k v) (putE k x es) := by
  induction h with
  | nil => exact .cons hv .nil
  | @cons k' u y es fs hu hr ih =>
    have hn' := List.nodup_cons.mp hn
    unfold PySem.stored putE
    dsimp only
    by_cases e : k' = k
    · subst e
      rw [if_pos (by simp), if_pos rfl, List.map_cons, if_pos rfl, hr.map_same hn'.1]
      exact .cons hv hr
    · rw [if_neg e]
      have z := ih hn'.2
      unfold PySem.stored at z
      by_cases q : es.any (fun kv => decide (kv.1 = k)) = true
      · rw [if_pos q] at z
        rw [if_pos (by simp [q]), List.map_cons, if_neg e]
        exact .cons hu z
      · rw [if_neg q] at z
        rw [if_neg (by simpa [e] using q)]
        exact .cons hu z
theorem DictAt.nodup {h : Heap} {a : Addr} {kvs : List (Int × Value)} {ep : Nat} (x : h.DictAt (intKind κ.prog κ.w) a kvs ep) : (kvs.map (·.1)).Nodup := let ⟨_, _, _, _, _, _, _, hn⟩ := x; hn
noncomputable def Cur (h : Heap) (I a : Addr) (src : AO) (i : Nat) : Prop := match src with
  | .list _ _ => h.IsListIter I a i
  | .tup _ => h.IsTupleIter I a i
  | .dict es ep => h.IsKeyIter I a i es.length ep
  | .range n => IsRangeIter h I (i : Int) ((n : Int) - i) 1
  | _ => False
theorem Cur.there {h : Heap} {I a : Addr} {src : AO} {i : Nat} (c : Cur h I a src i) : ∃ o, h.get? I = some o := by
  cases src with
  | list _ _ => obtain ⟨o, e, _⟩ := c; exact ⟨o, e⟩
  | tup _ => obtain ⟨o, e, _⟩ := c; exact ⟨o, e⟩
  | dict _ _ => obtain ⟨o, e, _⟩ := c; exact ⟨o, e⟩
  | range n => exact ⟨_, c⟩
  | _ => exact c.elim
theorem Cur.keep {h h' : Heap} {I a : Addr} {src : AO} {i : Nat} (c : Cur h I a src i) (k : ∀ o, h.get? I = some o → h'.get? I = some o) : Cur h' I a src i := by
  cases src with
  | list _ _ => obtain ⟨o, e, r⟩ := c; exact ⟨o, k _ e, r⟩
  | tup _ => obtain ⟨o, e, r⟩ := c; exact ⟨o, k _ e, r⟩
  | dict _ _ => obtain ⟨o, e, r⟩ := c; exact ⟨o, k _ e, r⟩
  | range n => exact k _ c
  | _ => exact c.elim
theorem small_n {n : Nat} (h : n ≤ 100000) : Builtin.Range.small 0 n 1 = true := small_one (by omega) (by omega) (by omega) (by omega)
theorem iter_ok (G : GOk κ Γ meths d) {A : Around} {σ : Sto} {s : Shared} (S : St κ σ s) {a : Addr} {src : AO} {xs : List V} {E : Value → Shared → Prop} {Q : Value → Shared → Prop} (e : look Γ σ a = some src) (hi : itemsOf src = some xs) (hz : xs.length ≤ 100000)
    (h : ∀ ob, Cur (s.heap.push ob) s.heap.objs.size a src 0 → Q (.ref s.heap.objs.size) { s with heap := s.heap.push ob }) : wpAny (model κ.prog κ.w) A (pyIter (.ref a)) Q E s := by
  have Z := look_sits G S e
  cases src with
  | list m ys =>
    obtain ⟨vs, n, o1, _⟩ := Z
    exact wpAny_pyIter_list (items := vs.toArray) ⟨_, o1, rfl, _, rfl⟩ (h _ ⟨_, Heap.get?_push_size _ rfl, rfl, rfl⟩)
  | tup ys =>
    obtain ⟨vs, l1, _⟩ := Z
    exact wpAny_pyIter_tuple l1 (h _ ⟨_, Heap.get?_push_size _ rfl, rfl, rfl⟩)
  | dict es ep =>
    obtain ⟨kvs, hd, he, _, _, lo⟩ := Z
    refine wpAny_pyIter_dict lo hd ?_
    rw [he.length]
    exact h _ ⟨_, Heap.get?_push_size _ rfl, rfl, rfl⟩
  | range n =>
    cases hi
    rw [List.length_map, List.length_range] at hz
    obtain ⟨t, u, v, hr⟩ := Z
    refine wpAny_pyIter_range hr (small_n hz) (h _ ?_)
    have : Builtin.Range.rangeSize 0 n 1 = (n : Int) - 0 := by rw [rangeSize_nat]; omega
    rw [this]
    exact Heap.get?_push_size _ rfl
  | _ => cases hi
theorem next_ok (G : GOk κ Γ meths d) {A : Around} (hh : A.handled = none) {σ : Sto} {s : Shared} (S : St κ σ s) {I a : Addr} {src : AO} {xs : List V} {i : Nat} {E : Value → Shared → Prop} {Q : Option Value → Shared → Prop} (e : look Γ σ a = some src) (hi : itemsOf src = some xs) (hle : i ≤ xs.length)
    (hz : xs.length ≤ 100000) (hc : Cur s.heap I a src i)
    (hend : xs[i]? = none → ∀ h', (∀ b o, b ≠ I → s.heap.get? b = some o → h'.get? b = some o) → Q none { s with heap := h' })
    (hitem : ∀ x v h' tk, xs[i]? = some x → Is v x → Cur h' I a src (i + 1) → (∀ b o, b ≠ I → s.heap.get? b = some o → h'.get? b = some o) → Q (some v) { s with heap := h', toks := tk }) :
    wpAny (model κ.prog κ.w) A (pyNext (.ref I)) Q E s := by
  have Z := look_sits G S e
  cases src with
  | list m ys =>
    cases hi
    obtain ⟨vs, n, o1, hvs, _⟩ := Z
    have hl : s.heap.IsList a vs.toArray := ⟨_, o1, rfl, _, rfl⟩
    cases q : xs[i]? with
    | none =>
      refine wpAny_pyNext_list_end hh hc hl ?_ fun h' he => hend q h' fun b o hb e => he b o hb e
      have := List.getElem?_eq_none_iff.mp q
      simp [hvs.length]; exact this
    | some x =>
      obtain ⟨v, hv, iv⟩ := get_back hvs q
      exact wpAny_pyNext_list_item hc hl hv fun h' hit hs => hitem x v h' s.toks q iv hit fun b o hb e => hs.extBut b o hb e
  | tup ys =>
    cases hi
    obtain ⟨vs, hl, hvs⟩ := Z
    cases q : xs[i]? with
    | none =>
      refine wpAny_pyNext_tuple_end hh hc hl ?_ fun h' he => hend q h' fun b o hb e => he b o hb e
      have := List.getElem?_eq_none_iff.mp q
      simp [hvs.length]; exact this
    | some x =>
      obtain ⟨v, hv, iv⟩ := get_back hvs q
      exact wpAny_pyNext_tuple_item hc hl hv fun h' hit hs => hitem x v h' s.toks q iv hit fun b o hb e => hs.extBut b o hb e
  | dict es ep =>
    cases hi
    obtain ⟨kvs, hd, he, _, _, lo⟩ := Z
    have hc' : s.heap.IsKeyIter I a i kvs.length ep := by rw [he.length]; exact hc
    cases q : (es.map fun p => V.int p.1)[i]? with
    | none =>
      have hk : kvs[i]? = none := by
        have := List.getElem?_eq_none_iff.mp q
        rw [List.length_map] at this
        exact List.getElem?_eq_none_iff.mpr (by rw [he.length]; exact this)
      exact wpAny_pyNext_dict_end hh hc' hd hk fun h' he => hend q h' fun b o hb e => he b o hb e
    | some x =>
      have hkeys := he.keys
      rw [List.getElem?_map] at q
      obtain ⟨p, hp, rfl⟩ := Option.map_eq_some_iff.mp q
      have hlt : i < kvs.length := by rw [he.length]; exact (List.getElem?_eq_some_iff.mp hp).1
      have e1 : (kvs.map (·.1))[i]? = some p.1 := by rw [hkeys, List.getElem?_map, hp]; rfl
      rw [List.getElem?_map, List.getElem?_eq_getElem hlt] at e1
      have e3 : kvs[i].1 = p.1 := Option.some.inj e1
      have e2 : kvs[i]? = some (p.1, kvs[i].2) := by rw [List.getElem?_eq_getElem hlt, ← e3]
      refine wpAny_pyNext_dict_item hc' hd e2 fun key h' hk hit hs => ?_
      obtain ⟨t, rfl⟩ := Value.isInt_shape hk
      rw [he.length] at hit
      exact hitem _ _ h' s.toks (by rw [List.getElem?_map, hp]; rfl) (.int _ _) hit fun b o hb e => hs.extBut b o hb e
  | range n =>
    cases hi
    rw [List.length_map, List.length_range] at hle hz
    by_cases q : i < n
    · refine wpAny_pyNext_range_item hc (by omega) fun h' hit hs => ?_
      refine hitem (.int (i : Nat)) _ h' (s.toks + 1) (by simp [q]) (.int _ _) ?_ fun b o hb e => hs.extBut b o hb e
      have e1 : ((i : Nat) : Int) + 1 = ((i + 1 : Nat) : Int) := by omega
      have e2 : ((n : Nat) : Int) - i - 1 = (n : Int) - ((i + 1 : Nat) : Int) := by omega
      rw [e1, e2] at hit
      exact hit
    · exact wpAny_pyNext_range_end hh hc (by omega) fun h' he => hend (by simp; omega) h' fun b o hb e => he b o hb e
  | _ => cases hi
theorem list_no_keys : typeLookup (.type "list") "keys" = pure none := by rw [typeLookup_type, builtinLookup_eq_fast]; kernel_rfl
theorem getAttrQ_miss_list {prog : Program} {w : World} {A : Around} {E : Value → Shared → Prop} {s : Shared} {a : Addr} {xs : Array Value} {k : Nat} {Q : Option Value → Shared → Prop}
    (hx : s.heap.get? a = some { cls := .type "list", dict := none, data := .seq xs k, slots := #[] }) (hA : A.handled = none)
    (h : ∀ h' tk, (∀ b o, s.heap.get? b = some o → h'.get? b = some o) → Q none { s with heap := h', toks := tk }) :
    wpAny (model prog w) A (getAttr? (.ref a) "keys") Q E s := by
  obtain ⟨hp, g, d, tk, os⟩ := s
  have hT : ∀ tk', (⟨hp, g, d, tk', os⟩ : Shared).TypeIs (.ref a) "list" := fun _ => ⟨_, hx, rfl⟩
  have f1 := sub_AttributeError
  have f3 := PySem.F.slot_list_getattribute.lookup
  have f4 := PySem.F.slot_list_getattribute.bind (.ref a)
  have f5 := am_list_getattr_none
  unfold getAttr? getAttrBy? getAttrBy
  repeat (any_goals (first | assumption | exact hT _ | ((with_reducible show wpAny _ _ (call (Value.builtin "list.__getattribute__") _ _) _ _ _); refine call_meets PySem.F.slot_list_getattribute (hT _) am_entry_list_getattribute (PySem.F.args_list_getattribute_2 _ _) (meets_getattribute_miss_list a xs k #[] "keys" _ list_no_keys (by decide +kernel)) ⟨hx, hA, fun h' tk' e hx' => ?_⟩) | wp_step))
  obtain ⟨t', u', he⟩ := hx'.there
  show wpAny _ _ (getattributeRaised _ _ _ _ _ _ _) _ _ _
  unfold getattributeRaised
  repeat (any_goals (first | assumption | wp_step))
  exact h _ _ hx'.keeps
theorem entry_update_loop : entryFor table "dict.update.loop" = some Builtin.«dict.update.loop» := entryFor_of_tree (by kernel_rfl)
theorem plain_update_loop : plainId "dict.update.loop" = true := by decide +kernel
theorem pairs_loop (G : GOk κ Γ meths d) {A : Around} (hh : A.handled = none) {σ : Sto} {s : Shared} (S : St κ σ s) {a D I : Addr} {m : Bool} {xs : List V} {R : Result → Shared → Prop} (e : look Γ σ a = some (.list m xs)) (hz : xs.length ≤ 100000) (hD : s.heap.get? D = none) (hI : s.heap.get? I = none) (hDI : I ≠ D) :
    ∀ (k i : Nat) (t : Tok) (ps es : List (Int × V)) (kvs : List (Int × Value)) (h : Heap) (tk : Nat), i + k = xs.length → pairsOf (look Γ σ) (xs.drop i) = some ps → es.length + ps.length ≤ 10000 → Ents kvs es → h.DictOf (intKind κ.prog κ.w) D kvs → Cur h I a (.list m xs) i → (∀ b o, s.heap.get? b = some o → h.get? b = some o) →
      (∀ h' tk kvs', h'.DictOf (intKind κ.prog κ.w) D kvs' → Ents kvs' (ps.foldl (fun es p => putE p.1 p.2 es) es) → (∀ b o, s.heap.get? b = some o → h'.get? b = some o) → R (.ok (.ret .none)) { s with heap := h', toks := tk }) →
      codeAny (model κ.prog κ.w) A (.builtin "dict.update.loop" ⟨[.ref D, .ref I, .int i t, .none], []⟩) R { s with heap := h, toks := tk } := by
  intro k
  induction k with
  | zero =>
    intro i t ps es kvs h tk hi hp hlen he hd hc hk hR
    have S1 : St κ σ { s with heap := h, toks := tk } := S.aside G.ok fun b o e _ => hk b o e
    refine codeAny_builtin entry_update_loop ?_
    unfold Builtin.«dict.update.loop»
    have hdr : xs.drop i = [] := List.drop_eq_nil_of_le (by omega)
    rw [hdr] at hp
    cases hp
    refine wpAny_bind (next_ok G (A := A.under _) (by first | exact hh | (unfold Around.under; exact hh) | (unfold Around.under; split <;> exact hh)) S1 e rfl (by omega) hz hc (fun _ h' hk' => ?_) fun x v h' tk' hx => ?_)
    · refine wpAny_bind (wpAny_pure (wpAny_pure ?_))
      obtain ⟨o, es', ep, h1, h2⟩ := hd
      exact hR h' tk kvs ⟨o, es', ep, hk' D o hDI.symm h1, h2⟩ he fun b o eb => hk' b o (fun z => by rw [z, hI] at eb; cases eb) (hk b o eb)
    · rw [List.getElem?_eq_none (by omega)] at hx; cases hx
  | succ k ih =>
    intro i t ps es kvs h tk hi hp hlen he hd hc hk hR
    have S1 : St κ σ { s with heap := h, toks := tk } := S.aside G.ok fun b o e _ => hk b o e
    have hlt : i < xs.length := by omega
    refine codeAny_builtin entry_update_loop ?_
    unfold Builtin.«dict.update.loop»
    refine wpAny_bind (next_ok G (A := A.under _) (by first | exact hh | (unfold Around.under; exact hh) | (unfold Around.under; split <;> exact hh)) S1 e rfl (by omega) hz hc (fun hn => ?_) fun x v h1 tk1 hx hv hc1 hk1 => ?_)
    · rw [List.getElem?_eq_getElem hlt] at hn; cases hn
    rw [List.getElem?_eq_getElem hlt] at hx
    cases hx
    rw [List.drop_eq_getElem_cons hlt] at hp
    generalize xs[i] = x at hv hp
    cases hv with
    | ref b =>
      unfold pairsOf at hp
      split at hp
      · rename_i kk y eb
        obtain ⟨pr, hpr, rfl⟩ := Option.map_eq_some_iff.mp hp
        have hk2 : ∀ b o, s.heap.get? b = some o → h1.get? b = some o := fun b o eb => hk1 b o (fun z => by rw [z, hI] at eb; cases eb) (hk b o eb)
        have S2 : St κ σ { s with heap := h1, toks := tk1 } := S.aside G.ok fun b o e _ => hk2 b o e
        obtain ⟨vs, ⟨ob, o1, hcl, nn, hdt⟩, hvs⟩ := look_sits G S2 eb
        cases hvs with
        | cons ik hvs => cases hvs with
        | cons iy hvs => cases hvs with
        | nil =>
        cases ik with
        | int kk' tt =>
        obtain ⟨od, es', epd, hod, hrd⟩ := hd
        have hd1 : h1.DictOf (intKind κ.prog κ.w) D kvs := ⟨od, es', epd, hk1 D od hDI.symm hod, hrd⟩
        refine wpAny_bind (wpAny_holding (wpAny_bind (wpAny_tryCatch ?_)))
        unfold Builtin.Dict.pairItems
        refine wpAny_bind (wpAny_typeOf (T := "tuple") ⟨ob, o1, hcl⟩ ?_)
        rw [if_pos (by decide +kernel)]
        refine wpAny_bind (wpAny_seqItems o1 hdt (wpAny_pure ?_))
        refine wpAny_holding (wpAny_dictSet_pairs (knd := intKind κ.prog κ.w) (k := kk) (by simp [intKind, Value.isInt]) hd1 (fun h2 hD2 hs2 => ?_) (by rw [he.length, sizeLine_eq]; simp at hlen; omega))
        have hput := putE_len kk y es
        refine wpAny_pure ⟨plainId_quiet plain_update_loop _, ?_⟩
        refine ih (i + 1) 0 pr (putE kk y es) _ h2 _ (by omega) hpr (by simp at hlen; omega) (he.stored (by obtain ⟨_, _, _, _, hn⟩ := hrd; exact hn) iy) hD2 (hc1.keep fun o eo => hs2.extBut I o hDI eo) (fun b o eb => hs2.extBut b o (fun z => by rw [z, hD] at eb; cases eb) (hk2 b o eb)) hR
      · cases hp
    | _ => cases hp
theorem call_dict_pairs (G : GOk κ Γ meths d) {σ : Sto} {s : Shared} (S : St κ σ s) {A : Around} (r : Room A d) {a : Addr} {m : Bool} {xs : List V} {ps : List (Int × V)} {q : Post} (e : look Γ σ a = some (.list m xs)) (hp : pairsOf (look Γ σ) xs = some ps) (hz : ps.length ≤ 1000)
    (hq : ∀ l, New Γ σ l → ∀ ep, q (.ref l) (σ.set l (.dict (ps.foldl (fun es p => putE p.1 p.2 es) []) ep))) : Goes κ [] A (call (.type "dict") [.ref a]) σ s (fun v σ' => ∃ x, Is v x ∧ q x σ') := by
  have hlx : xs.length = ps.length := by
    clear hq hz e
    induction xs generalizing ps with
    | nil => cases hp; rfl
    | cons x xs ih =>
      cases x with
      | ref b =>
        unfold pairsOf at hp
        split at hp
        · obtain ⟨pr, hpr, rfl⟩ := Option.map_eq_some_iff.mp hp
          simp [ih hpr]
        · cases hp
      | _ => cases hp
  refine callType_codes (Q₁ := fun obj s₁ => obj = .ref s.heap.objs.size ∧ s₁ = { s with heap := s.heap.push { cls := .type "dict", data := .dict #[] } }) PySem.F.kt_called_dict (PySem.F.kt_typeCall_dict_1 _) PySem.F.entry_dict_init (kt_code_dict_new _ ⟨rfl, rfl⟩) ?_
  rintro obj s₁ ⟨rfl, rfl⟩
  have hnew : (s.heap.push { cls := .type "dict", data := .dict #[] }).DictOf (intKind κ.prog κ.w) s.heap.objs.size [] := Heap.DictOf.new s.heap
  refine ⟨hnew.typeIs, PySem.F.args_dict_init_2 _ _, ?_⟩
  unfold Builtin.«dict.__init__»
  refine wpAny_bind ?_
  unfold Builtin.Dict.selfAndRest
  refine wpAny_bind (wpAny_notOrdered_dict hnew.typeIs ?_)
  show wpAny _ _ (pure (s.heap.objs.size, [Value.ref a])) _ _ _
  refine wpAny_pure ?_
  show wpAny _ _ (Builtin.Dict.updateFrom "dict.__init__" s.heap.objs.size (.ref a) [] .none) _ _ _
  unfold Builtin.Dict.updateFrom
  have S1 : St κ σ { s with heap := s.heap.push { cls := .type "dict", data := .dict #[] } } := S.aside G.ok (tk := s.toks) fun b o e _ => Heap.get?_push_of_some _ e
  obtain ⟨vs, nn, o1, hvs, _⟩ := look_sits G S1 e
  refine wpAny_bind (wpAny_typeOf (T := "list") ⟨_, o1, rfl⟩ ?_)
  rw [if_pos (by decide)]
  refine wpAny_bind (getAttrQ_miss_list o1 r.handled fun h1 tk1 hk1 => ?_)
  rw [if_pos (show (none : Option Value).isNone = true from rfl)]
  refine wpAny_bind (wpAny_rule ?_)
  have hkk : ∀ b o, s.heap.get? b = some o → h1.get? b = some o := fun b o eb => hk1 b o (Heap.get?_push_of_some _ eb)
  have S2 : St κ σ { s with heap := h1, toks := tk1 } := S.aside G.ok fun b o e _ => hkk b o e
  refine wpAny_bind (iter_ok G S2 e rfl (by omega) fun ob hc => ?_)
  have hD0 : s.heap.get? s.heap.objs.size = none := fresh_none _
  obtain ⟨od, es', epd, hod, hrd⟩ := hnew
  have hD1 : h1.get? s.heap.objs.size = some od := hk1 _ _ hod
  have hlt : s.heap.objs.size < h1.objs.size := Heap.lt_size hD1
  refine wpAny_pure ⟨plainId_quiet plain_update_loop _, ?_⟩
  refine pairs_loop G (A := A.in1) r.handled S e (by omega) hD0 (I := h1.objs.size) (by
      cases z : s.heap.get? h1.objs.size with
      | none => rfl
      | some o => exact absurd (Heap.lt_size (hkk _ _ z)) (Nat.lt_irrefl _)) (Nat.ne_of_gt hlt) xs.length 0 0 ps [] [] _ tk1 (by omega) (by rw [List.drop_zero]; exact hp) (by simp; omega) .nil ⟨od, es', epd, Heap.get?_push_of_some _ hD1, hrd⟩ hc (fun b o eb => Heap.get?_push_of_some _ (hkk b o eb)) fun h' tk' kvs' hd' he' hk' => ⟨rfl, ?_⟩
  obtain ⟨ep', hD'⟩ := hd'.dictAt
  have hlen : ∀ (ps es : List (Int × V)), (ps.foldl (fun es p => putE p.1 p.2 es) es).length ≤ es.length + ps.length := by
    intro ps
    induction ps with
    | nil => intro es; simp
    | cons p ps ih => intro es; have := ih (putE p.1 p.2 es); have := putE_len p.1 p.2 es; simp only [List.foldl_cons, List.length_cons]; omega
  have := hlen ps []
  exact after_made (ao := .dict _ ep') (tk := tk') G S hD0 hk' ⟨kvs', hD', he', S.base_none hD0, by simp at this; omega, new_low G S⟩ fun l hl => hq l hl ep'
end Mine
end
section
open PySem PySem.W PyProof.Rows PySem.SeqAt
set_option Elab.async false
set_option maxRecDepth 100000
namespace Mine
variable {κ : Kx} {Γ : Gx} {meths : List (PySem.Str × Addr)} {d : Nat} {env : Env} {vars : List (PySem.Str × Loc)}
theorem F.lookup_bytes : typeLookup (.type "bytes") "__bytes__" = pure (some (.builtin "bytes.__bytes__")) := by rw [typeLookup_type, builtinLookup_eq_fast]; kernel_rfl
theorem call_bytes_bytes {prog : Program} {w : World} {A : Around} {E : Value → Shared → Prop} {s : Shared} {b : Array UInt8} {t : Tok} {Q : Value → Shared → Prop} (hQ : Q (.bytes b t) s) :
    wpAny (model prog w) A (call (.type "bytes") [.bytes b t]) Q E s := by
  refine callType_codes (Q₁ := fun obj s₁ => s₁.TypeIs obj "bytes" ∧ Q obj s₁) F.bm_called (F.bm_typeCall _) F.entry_object_init ?_ fun obj s₁ h₁ => ?_
  · refine codeAny_of_tree ?_
    show wpAny _ A.in1.in1 (do checkBuiltinCall "bytes.__new__" ⟨[.type "bytes", .bytes b t], []⟩; again (.builtin "bytes.__new__" ⟨[.type "bytes", .bytes b t], []⟩)) _ _ s
    refine wpAny_bind (wpAny_of_eq (F.bm_newCall _) (wpAny_pure ⟨plainId_quiet F.bm_plain _, codeAny_builtin F.bm_entry ?_⟩))
    rw [Around.under_plainId F.bm_plain _]
    have hT : s.TypeIs (.bytes b t) "bytes" := PySem.W.typeIs_bytes _ _ _
    unfold Builtin.«bytes.__new__»
    refine wpAny_bind (wpAny_of_eq (a := true) rfl ?_)
    refine bm_if_false rfl ?_
    refine wpAny_bind (wpAny_of_eq F.bm_sub ?_)
    refine bm_if_false rfl ?_
    refine wpAny_bind (wpAny_of_eq (F.bm_bind _) ?_)
    refine wpAny_bind (wpAny_of_eq (a := ()) rfl ?_)
    refine wpAny_bind (wpAny_of_eq (a := ()) rfl ?_)
    refine bm_if_false rfl ?_
    refine wpAny_bind (wpAny_specialOf hT F.lookup_bytes ?_)
    refine wpAny_bind (wpAny_rule ?_)
    refine wpAny_bind (wpAny_typeOf hT ?_)
    refine bm_if_true (by decide +kernel) ?_
    exact wpAny_pure ⟨PySem.W.typeIs_bytes _ _ _, hQ⟩
  · exact ⟨h₁.1, F.args_object_init_2 obj _, object_init_meets F.bm_called.init.lookup F.bm_called.made (by decide) prog w A.in1 _ s₁ ⟨h₁.1, rfl, h₁.2⟩⟩
noncomputable def BI.val : BI → Value
  | .len => .builtin "len" | .sorted => .builtin "sorted" | .max => .builtin "max" | .dict => .type "dict" | .bytes => .type "bytes" | .list => .type "list" | .range => .type "range"
theorem octets_arr : ∀ {ks : List Int} {bs : List UInt8}, octets ks = some bs → (∀ n ∈ ks, 0 ≤ n ∧ n < 256) ∧ byteArr ks = bs.toArray ∧ ks.length = bs.length := by
  intro ks
  induction ks with
  | nil => intro bs e; cases e; exact ⟨(fun _ h => nomatch h), rfl, rfl⟩
  | cons k ks ih =>
    intro bs e
    unfold octets at e
    split at e
    · rename_i hk
      cases q : octets ks with
      | none => rw [q] at e; cases e
      | some bs' =>
        rw [q] at e; cases e
        obtain ⟨a, b, c⟩ := ih q
        refine ⟨fun n hn => ?_, ?_, by simp [c]⟩
        · rcases List.mem_cons.mp hn with rfl | hn
          · exact hk
          · exact a n hn
        · unfold byteArr at b ⊢
          rw [List.map_cons]
          have b' := congrArg Array.toList b
          simp at b'
          rw [b']
    · cases e
theorem items_range {n : Nat} {acc : Array Value} (h : ItemsOf (fun i v => ∃ t, v = Value.int ((0 : Int) + i * 1) t) acc n) : Vals acc.toList ((List.range n).map fun i => V.int (i : Nat)) := by
  have key : ∀ (l : List Value) (xs : List V), l.length = xs.length → (∀ (j : Nat) (v : Value), l[j]? = some v → ∃ x, xs[j]? = some x ∧ Is v x) → Vals l xs := by
    intro l
    induction l with
    | nil => intro xs e _; cases xs with | nil => exact .nil | cons => cases e
    | cons v l ih =>
      intro xs e hj
      cases xs with
      | nil => cases e
      | cons x xs =>
        obtain ⟨y, e1, hy⟩ := hj 0 v rfl
        simp at e1; subst e1
        exact .cons hy (ih xs (by simpa using e) fun j u hu => by simpa using hj (j + 1) u (by simpa using hu))
  refine key _ _ (by simp [h.1]) fun j v hv => ?_
  obtain ⟨t, rfl⟩ := h.2 j v (by simpa using hv)
  have hj : j < n := by
    have := (List.getElem?_eq_some_iff.mp hv).1
    rw [Array.length_toList, h.1] at this
    exact this
  refine ⟨.int (j : Nat), by simp [hj], ?_⟩
  have : (0 : Int) + (j : Nat) * 1 = (j : Nat) := by omega
  rw [this]
  exact .int _ _
theorem max_list {A : Around} {σ : Sto} {s : Shared} (G : GOk κ Γ meths d) (S : St κ σ s) (hh : A.handled = none) {l : Addr} {vs : List Value} {k : Int} {ks : List Int} {q : Post} (hl : s.heap.IsList l vs.toArray) (hI : IntsAre vs (k :: ks))
    (h : q (.int (ks.foldl max k)) σ) : Goes κ [] A (call (.builtin "max") [.ref l]) σ s (fun v σ' => ∃ x, Is v x ∧ q x σ') := by
  refine call_max_walk ?_
  have hlt : l < s.heap.objs.size := by obtain ⟨_, e, _⟩ := hl; exact Heap.lt_size e
  refine wpAny_pyIter_list hl ⟨s.heap.objs.size, _, _, _, _, _, _, rfl, Walks.list (A := A.in1) hh _ l (Nat.ne_of_lt hlt) vs.toArray, ⟨⟨_, Heap.get?_push_size _ rfl, rfl, rfl⟩, hl.push _⟩, fun b hb => ?_, by rw [List.size_toArray, hI.length]; exact Nat.succ_pos _,
    CmpOf.ints_gt (fun i => (k :: ks).getD i 0) (fun i v hv => hI.int_at i v (by simpa using hv)), fun v h' tk hv hk => ?_⟩
  · show b < (s.heap.push _).objs.size
    rw [Heap.size_push]
    rcases List.mem_cons.mp hb with rfl | hb
    · exact Nat.lt_succ_self _
    · rcases List.mem_cons.mp hb with rfl | hb
      · exact Nat.lt_succ_of_lt hlt
      · cases hb
  · rw [List.size_toArray, hI.length] at hv
    obtain ⟨t, e⟩ := hI.int_at _ v (by rw [List.getElem?_toArray] at hv; exact hv)
    rw [best_of rfl] at e
    subst e
    exact after_kept G S (tk := tk) (old_kept hk) ⟨_, .int _ _, h⟩
theorem small_0n {n : Nat} (h : n ≤ 1000) : Builtin.Range.small 0 n 1 = true := small_one (by omega) (by omega) (by omega) (by omega)
theorem bi_ok (G : GOk κ Γ meths d) {σ : Sto} {s : Shared} (S : St κ σ s) {A : Around} (r : Room A d) {f : BI} {x : V} {v : Value} {q : Post} (h : biW Γ f x q σ) (hv : Is v x) :
    Goes κ [] A (call f.val [v]) σ s (fun v σ' => ∃ x, Is v x ∧ q x σ') := by
  cases f with
  | len =>
    cases hv with
    | ref a =>
      obtain ⟨o, xs, e, ei, hr, ht, hq⟩ := h
      have Z := look_sits G S e
      cases o with
      | list m ys =>
        cases ei
        obtain ⟨vs, n, o1, hvs, _, hz⟩ := Z
        have hl : s.heap.IsList a vs.toArray := ⟨_, o1, rfl, _, rfl⟩
        refine Calls.call_len_list hl (by rw [List.size_toArray, hvs.length]; omega) ?_
        rw [List.size_toArray, hvs.length]
        exact After.tok S ⟨_, .int _ _, hq⟩
      | dict es ep =>
        cases ei
        obtain ⟨kvs, hd, he, _, hz, lo⟩ := Z
        refine call_len_dict lo hd.dictOf (by rw [he.length]; omega) ?_
        rw [he.length]
        rw [List.length_map] at hq
        exact After.tok S ⟨_, .int _ _, hq⟩
      | range n => exact absurd rfl (hr n)
      | tup ys => exact absurd rfl (ht ys)
      | _ => cases ei
    | _ => exact h.elim
  | sorted =>
    cases hv with
    | ref a =>
      obtain ⟨o, xs, ks, e, ei, hr, ht, hk, hz, hq⟩ := h
      have Z := look_sits G S e
      cases o with
      | list m ys =>
        cases ei
        obtain ⟨vs, n, o1, hvs, _, _⟩ := Z
        exact sorted_list G S ⟨_, o1, rfl, _, rfl⟩ (ints_are hvs hk) hz hq
      | dict es ep =>
        cases ei
        obtain ⟨kvs, hd, he, _, _, lo⟩ := Z
        have := keysOf_ints hk
        subst this
        rw [List.length_map] at hz
        rw [← he.keys] at hq
        exact sorted_dict G S r.handled hd lo (by rw [he.length]; exact hz) hq
      | range n => exact absurd rfl (hr n)
      | tup ys => exact absurd rfl (ht ys)
      | _ => cases ei
    | _ => exact h.elim
  | max =>
    cases hv with
    | ref a =>
      obtain ⟨o, xs, k, ks, e, ei, hr, ht, hk, hz, hq⟩ := h
      have Z := look_sits G S e
      cases o with
      | list m ys =>
        cases ei
        obtain ⟨vs, n, o1, hvs, _, _⟩ := Z
        have hI := ints_are hvs hk
        exact max_list G S r.handled ⟨_, o1, rfl, _, rfl⟩ hI hq
      | dict es ep =>
        cases ei
        obtain ⟨kvs, hd, he, _, _, lo⟩ := Z
        have hks := keysOf_ints hk
        have hl : (k :: ks).length = kvs.length := by rw [hks, he.length, List.length_map]
        refine max_ok G S r.handled (ns := k :: ks) (by rw [hl]; exact kdl_dict (knd := intKind κ.prog κ.w) (kvs := kvs) (ep := ep) lo) hd (fun i v hv => ?_) rfl hq
        obtain ⟨k', x', e1, hk'⟩ := hv
        obtain ⟨t, rfl⟩ := Value.isInt_shape hk'
        refine ⟨t, ?_⟩
        rw [hks, ← he.keys, List.getD_eq_getElem?_getD, List.getElem?_map, e1]
        rfl
      | range n => exact absurd rfl (hr n)
      | tup ys => exact absurd rfl (ht ys)
      | _ => cases ei
    | _ => exact h.elim
  | bytes =>
    cases hv with
    | bytes b t => exact call_bytes_bytes (After.now S ⟨_, .bytes _ _, h⟩)
    | ref a =>
      obtain ⟨m, xs, ks, bs, e, hk, ho, hz, hq⟩ := h
      obtain ⟨vs, n, o1, hvs, _, _⟩ := look_sits G S e
      have hI := ints_are hvs hk
      obtain ⟨b1, b2, b3⟩ := octets_arr ho
      refine call_bytes_ints ⟨_, o1, rfl, _, rfl⟩ hI b1 (by rw [hI.length, b3, sizeLine_eq]; omega) r.handled fun h' t k hk => ?_
      rw [b2]
      exact after_kept G S hk ⟨_, .bytes _ _, hq⟩
    | _ => exact h.elim
  | range =>
    cases hv with
    | int n t =>
      obtain ⟨h0, h1, hq⟩ := h
      refine call_range_1 ?_
      have e : ((n.toNat : Nat) : Int) = n := Int.toNat_of_nonneg h0
      refine after_made (ao := .range n.toNat) G S (fresh_none _) (fun b o eb => Heap.get?_push_of_some _ eb) ⟨s.toks, t, s.toks + 1, ?_⟩ hq
      rw [e]
      exact IsRange.new _ _ _ _ _ _ _
    | _ => exact h.elim
  | list =>
    cases hv with
    | ref a =>
      obtain ⟨o, xs, e, ei, hd, hz, hq⟩ := h
      have Z := look_sits G S e
      have seq : ∀ (T : String) (ob : Obj) (vs : List Value) (n : Nat), (T = "list" ∨ T = "tuple") → s.heap.get? a = some ob → ob.cls = .type T → ob.data = .seq vs.toArray n → Vals vs xs →
          Goes κ [] A (call (.type "list") [.ref a]) σ s (fun v σ' => ∃ x, Is v x ∧ q x σ') := by
        intro T ob vs n hT ho hc hdt hvs
        refine call_list_seq a hT ho hc hdt (fun h' c' k hn => ?_) (by rw [List.size_toArray, hvs.length, sizeLine_eq]; omega)
        exact after_made (ao := .list true xs) (tk := s.toks) G S (fresh_none _) k ⟨vs, c', hn, hvs, fun _ => S.base_none (fresh_none _), by omega⟩ hq
      cases o with
      | list m ys =>
        cases ei
        obtain ⟨vs, n, o1, hvs, _, _⟩ := Z
        exact seq "list" _ vs n (.inl rfl) o1 rfl rfl hvs
      | tup ys =>
        cases ei
        obtain ⟨vs, ⟨ob, o1, hc, n, hdt⟩, hvs⟩ := Z
        exact seq "tuple" ob vs n (.inr rfl) o1 hc hdt hvs
      | range n =>
        cases ei
        obtain ⟨t, u, v, hr⟩ := Z
        rw [List.length_map, List.length_range] at hz
        refine call_list_range r.handled hr ?_ (n := n) ?_ (by omega) fun h' tk acc c' k hn hI => ?_
        · exact small_0n (by omega)
        · rw [rangeSize_nat]; omega
        · exact after_made (ao := .list true _) (tk := tk) G S (fresh_none _) k ⟨acc.toList, c', by simpa using hn, items_range hI, fun _ => S.base_none (fresh_none _), by simp; omega⟩ hq
      | dict es ep => exact absurd rfl (hd es ep)
      | _ => cases ei
    | _ => exact h.elim
  | dict =>
    cases hv with
    | ref a =>
      unfold biW at h
      dsimp only at h
      split at h
      · rename_i es ep e
        obtain ⟨hz, hq⟩ := h
        obtain ⟨kvs, hd, he, _, _, lo⟩ := look_sits G S e
        refine kt_call_dict (knd := intKind κ.prog κ.w) lo hd.dictOf (by rw [he.length, sizeLine_eq]; omega) fun h' hD' hs => ?_
        obtain ⟨ep', hD⟩ := hD'.dictAt
        refine after_made (ao := .dict es ep') (tk := s.toks) G S (fresh_none _) (fun b o eb => hs.extBut b o (Nat.ne_of_lt (Heap.lt_size eb)) (Heap.get?_push_of_some _ eb)) ⟨kvs, hD, he, S.base_none (fresh_none _), by omega, new_low G S⟩ fun l hl => hq l hl ep'
      · rename_i m xs e
        obtain ⟨ps, hp, hz, hq⟩ := h
        exact call_dict_pairs G S r e hp hz hq
      · exact h.elim
    | _ => exact h.elim
end Mine
end
section
open PySem PySem.W PyProof.Rows PySem.SeqAt
set_option Elab.async false
set_option maxRecDepth 100000
namespace Mine
variable {κ : Kx} {Γ : Gx} {meths : List (PySem.Str × Addr)} {d : Nat} {env : Env} {vars : List (PySem.Str × Loc)}
theorem isStr_str (x y : PySem.Str) (t : Tok) : (Value.str x t).isStr y = (x == y) := rfl
theorem Flds.refs {P : Params} {ns : List PySem.Str} {es : List DictEntry} {fs : List V} (h : Flds P ns es fs) : es.any (·.refKey) = false := by
  induction h with
  | nil => rfl
  | cons _ _ ih => rw [List.any_cons, ih]; rfl
theorem Flds.len {P : Params} {ns : List PySem.Str} {es : List DictEntry} {fs : List V} (h : Flds P ns es fs) : es.length = fs.length ∧ fs.length ≤ ns.length := by
  induction h with
  | nil => exact ⟨rfl, Nat.zero_le _⟩
  | cons _ _ ih => simp [ih.1, ih.2]
theorem Flds.find_none {P : Params} {ns : List PySem.Str} {es : List DictEntry} {fs : List V} {name : PySem.Str} (h : Flds P ns es fs) (hn : ∀ i, ns[i]? = some name → fs.length ≤ i) : es.find? (·.key.isStr name) = none := by
  induction h with
  | nil => rfl
  | @cons n ns t v x es fs _ _ ih =>
    rw [List.find?_cons]
    have : n ≠ name := fun e => by have := hn 0 (by rw [e]; rfl); simp at this
    show (match (n == name) with | true => _ | false => _) = _
    rw [beq_false_of_ne this]
    exact ih fun i hi => by have := hn (i + 1) (by simpa using hi); simpa using this
theorem Flds.miss {P : Params} {ns : List PySem.Str} {es : List DictEntry} {fs : List V} {name : PySem.Str} (h : Flds P ns es fs) (hn : ∀ i, ns[i]? = some name → fs.length ≤ i) : getL name es = some none := by
  unfold getL
  rw [h.find_none hn]
  show (if es.any (·.refKey) = true then none else some none) = _
  rw [h.refs]; rfl
theorem Flds.get {P : Params} {ns : List PySem.Str} {es : List DictEntry} {fs : List V} (h : Flds P ns es fs) : ∀ {i : Nat} {name : PySem.Str} {x : V}, ns.Nodup → ns[i]? = some name → fs[i]? = some x → ∃ v, getL name es = some (some v) ∧ Is v x := by
  induction h with
  | nil => intro i name x _ _ e; simp at e
  | @cons n ns t v x es fs hv _ ih =>
    intro i name y hn e1 e2
    unfold getL
    rw [List.find?_cons, isStr_str]
    cases i with
    | zero => simp at e1 e2; subst e1 e2; rw [beq_self_eq_true]; exact ⟨v, rfl, hv⟩
    | succ i =>
      have hne : n ≠ name := fun e => (List.nodup_cons.mp hn).1 (e ▸ List.mem_of_getElem? (by simpa using e1))
      rw [beq_false_of_ne hne]
      obtain ⟨u, hu, iu⟩ := ih (i := i) (List.nodup_cons.mp hn).2 (by simpa using e1) (by simpa using e2)
      refine ⟨u, ?_, iu⟩
      unfold getL at hu
      dsimp only
      split at hu
      · rename_i en he; rw [he]; exact hu
      · split at hu <;> cases hu
theorem Flds.put {P : Params} {ns : List PySem.Str} {es : List DictEntry} {fs : List V} (h : Flds P ns es fs) : ∀ {i : Nat} {name : PySem.Str} {t : Tok} {v : Value} {x : V}, ns.Nodup → ns[i]? = some name → i ≤ fs.length → Is v x →
    Flds P ns (putL name (PyData.keyHash P name) (.str name t) v es) (putF fs i x) := by
  induction h with
  | @nil ns =>
    intro i name t v x _ e1 e2 hv
    have : i = 0 := by simpa using e2
    subst this
    cases ns with
    | nil => cases e1
    | cons n ns => simp at e1; subst e1; exact .cons hv .nil
  | @cons n ns t v x es fs hv hr ih =>
    intro i name t' u y hn e1 e2 hu
    unfold putL
    show Flds P _ (if (n == name) = true then _ else _) _
    cases i with
    | zero =>
      simp at e1; subst e1
      rw [if_pos (beq_self_eq_true _)]
      exact .cons hu hr
    | succ i =>
      have hne : n ≠ name := fun e => (List.nodup_cons.mp hn).1 (e ▸ List.mem_of_getElem? (by simpa using e1))
      rw [if_neg (by simpa using hne)]
      have z := ih (i := i) (t := t') (List.nodup_cons.mp hn).2 (by simpa using e1) (by simpa using e2) hu
      have e : putF (x :: fs) (i + 1) y = x :: putF fs i y := by
        unfold putF
        by_cases q : i < fs.length
        · rw [if_pos q, if_pos (by simpa using q)]; rfl
        · rw [if_neg q, if_neg (by simpa using q)]; rfl
      rw [e]
      exact .cons hv z
theorem osa_raw {prog : Program} {w : World} {A : Around} {s : Shared} {K : Frag} {R : Result → Shared → Prop} {x C dx : Addr} {es : List DictEntry} {n : Nat} {name : PySem.Str} {tk : Tok} {v : Value} (X : K.In s.heap)
    (I : InstAt s.heap x (instObj C dx) C (some (dictOf es n))) (hp : plainOver K C = true) (ht : takerIn K C name = some none) (hh : (clsIn K C).any (·.hasDict) = true)
    (hl : (getL name es).isSome = true) (hz : (putL name (PyData.keyHash w.params name) (.str name s.toks) v es).length ≤ 1000)
    (h : ∀ h', h'.get? dx = some (dictOf (putL name (PyData.keyHash w.params name) (.str name s.toks) v es) (putN name es n)) → Heap.SameBut dx s.heap h' → R (.ok (.ret .none)) { s with heap := h', toks := s.toks + 1 }) :
    codeAny (model prog w) A (.call (.builtin "object.__setattr__") ⟨[.ref x, .str name tk, v], []⟩) R s := by
  refine osa_open X I hp ht fun b => ?_
  obtain ⟨cd, hc, hd'⟩ := any_some hh
  obtain ⟨hx, hcl, hn, D⟩ := I
  have D : s.heap.get? dx = some (dictOf es n) := D
  have D' : (s.heap.update dx (Obj.putName name (PyData.keyHash w.params name) (.str name s.toks) v)).get? dx = some (dictOf (putL name (PyData.keyHash w.params name) (.str name s.toks) v es) (putN name es n)) := by
    rw [Heap.get?_update_self _ D (by rw [putName_dict]; rfl), putName_dict]
  refine wpAny_bind (wpAny_pure (wpAny_bind (wpAny_bind (wpAny_loadPart hx (wpAny_bind ((looks_clsIn X hc).here ?_))))))
  rw [hd']
  refine wpAny_pure (a := some dx) (wpAny_bind (wpAny_pure (wpAny_bind ?_)))
  unfold nsSet
  refine wpAny_bind (wpAny_bind (wpAny_askSetting (wpAny_pure (wpAny_bind (wpAny_mkText (wpAny_bind (wpAny_loadPart D ?_)))))))
  dsimp only
  have c : (!es.any (·.key.isStr name) && es.any (·.refKey)) = false := by
    unfold getL at hl
    split at hl
    · rename_i en he
      rw [List.any_eq_true.mpr ⟨en, List.mem_of_find?_eq_some he, List.find?_some he⟩]; rfl
    · split at hl
      · cases hl
      · rename_i z; rw [Bool.not_eq_true] at z; rw [z, Bool.and_false]
  have c' : (!es.toArray.any (·.key.isStr name) && es.toArray.any (·.refKey)) = false := by
    rw [← Array.any_toList, ← Array.any_toList]; exact c
  rw [aRefKeyMayBeTheName_at, c']
  refine wpAny_updatePart D ?_
  refine wpAny_bind (wpAny_lookBehind D' (by rw [show (dictOf (putL name (PyData.keyHash w.params name) (.str name s.toks) v es) (putN name es n)).data = .dict _ _ from rfl]; exact pastItsLine_dict (by rw [List.size_toArray, sizeLine_eq]; omega)) ?_)
  exact wpAny_pure (h _ D' (Heap.SameBut.update ..))
theorem inst_at {σ : Sto} {h : Heap} {a c : Addr} {fs : List V} (Z : Sits κ σ h a (.inst c fs)) : ∃ dx es n, InstAt h a (instObj c dx) c (some (dictOf es n)) ∧ Flds κ.w.params κ.names es fs ∧ σ dx = some (.priv a) ∧ κ.base.get? dx = none := by
  obtain ⟨dx, es, n, e1, e2, f, p, b⟩ := Z
  exact ⟨dx, es, n, ⟨e1, rfl, rfl, e2⟩, f, p, b⟩
structure ClsOk (κ : Kx) (Γ : Gx) (meths : List (PySem.Str × Addr)) : Prop where
  has : hasDictIn κ.K Γ.cls = true
  plain : plainOver κ.K Γ.cls = true
  setter : findIn κ.K (.ref Γ.cls) "__setattr__" = some (some (.builtin "object.__setattr__"))
  name : ∀ (i : Nat) (n : PySem.Str), κ.names[i]? = some n → nameOk κ.K Γ.cls n = true
  meth : ∀ (i : Nat) (p : PySem.Str × Addr), meths[i]? = some p → methOk κ.K Γ.cls κ.names p = true
  nodup : κ.names.Nodup
  few : κ.names.length ≤ 100
theorem GOk.clsOk (G : GOk κ Γ meths d) : ClsOk κ Γ meths := by
  have := G.cls
  unfold Mine.clsOk at this
  simp only [Bool.and_eq_true, beq_iff_eq, decide_eq_true_eq, List.all_eq_true] at this
  obtain ⟨⟨⟨⟨⟨⟨a, b⟩, c⟩, e⟩, f⟩, g⟩, h⟩ := this
  exact ⟨a, b, c, fun i n hn => e n (List.mem_of_getElem? hn), fun i p hp => f p (List.mem_of_getElem? hp), g, h⟩
theorem GOk.X (G : GOk κ Γ meths d) {σ : Sto} {s : Shared} (S : St κ σ s) : κ.K.In s.heap := fun b o e => S.base _ _ (G.ok.X b o e)
theorem Is.handed {v : Value} {x : V} (h : Is v x) : handedIn v = true := by cases h <;> rfl
theorem se_attr (G : GOk κ Γ meths d) {e : PySem.Expr} {n : PySem.Str} {pos : Pos} {pe : PE} {i : Nat} (hb : attributeBase e n env (eval e env) = eval e env) (hi : κ.names[i]? = some n) (he : SE κ d env vars e (wpE Γ pe)) :
    SE κ d env vars (.Attribute e n pos) (wpE Γ (.attr pe i)) := by
  rintro A s σ ε q r S F hq
  unfold Goes
  rw [arm_eval_Attribute, hb]
  refine wpAny_bind (wpAny_mono (he A s σ ε _ r S F hq) (fun v s1 zz => ?_) fun _ _ z => z)
  obtain ⟨σ1, w1, S1, x, ix, a, fs, y, e1, e2, e3, q1⟩ := zz
  subst e1
  cases ix
  have C := G.clsOk
  obtain ⟨dx, es, m, I, f, _⟩ := inst_at (S1.sits _ _ e2)
  obtain ⟨u, hu, iu⟩ := f.get C.nodup hi e3
  have N := C.name i n hi
  simp only [nameOk, Bool.and_eq_true, beq_iff_eq] at N
  obtain ⟨⟨N1, N2⟩, _⟩ := N
  obtain ⟨attr, N3, N4⟩ : ∃ attr, findIn κ.K (.ref Γ.cls) n = some attr ∧ noGet κ.K attr = true := by
    cases q : findIn κ.K (.ref Γ.cls) n with
    | none => rw [q] at N2; cases N2
    | some z => rw [q] at N2; exact ⟨z, rfl, N2⟩
  refine wpAny_bind (wpAny_standAt (wpAny_bind (wpAny_holding (get_value (G.X S1) I (plainGet_of N1).1 (findObj_own C.has N3 N4 (by rw [lookIn_dict]; exact hu)) iu.handed ?_))))
  refine wpAny_bind (wpAny_letTemporaryGo (wpAny_pure ?_))
  exact After.up w1 (After.tok S1 ⟨_, iu, q1⟩)
theorem put_ok (G : GOk κ Γ meths d) {σ : Sto} {s : Shared} (S : St κ σ s) {A : Around} {E : Value → Shared → Prop} {a : Addr} {fs : List V} {i : Nat} {n : PySem.Str} {v : Value} {x : V} {Q : Unit → Shared → Prop} (e2 : σ a = some (.inst Γ.cls fs)) (hi : κ.names[i]? = some n) (hl : i ≤ fs.length) (hv : Is v x)
    (h : ∀ h' tk, St κ (σ.set a (.inst Γ.cls (putF fs i x))) { s with heap := h', toks := tk } → Fut [] σ s.heap (σ.set a (.inst Γ.cls (putF fs i x))) h' → Q () { s with heap := h', toks := tk }) :
    wpAny (model κ.prog κ.w) A (setAttr (.ref a) n v) Q E s := by
  have C := G.clsOk
  obtain ⟨dx, es, m, I, f, hp, hbd⟩ := inst_at (S.sits _ _ e2)
  have N := C.name i n hi
  simp only [nameOk, Bool.and_eq_true, beq_iff_eq] at N
  obtain ⟨_, N2⟩ := N
  have hg : (getL n es).isSome = true := by
    by_cases q : i < fs.length
    · obtain ⟨u, hu, _⟩ := f.get C.nodup hi (List.getElem?_eq_getElem q); rw [hu]; rfl
    · rw [f.miss fun j hj => ?_]; · rfl
      have := (List.getElem?_inj (List.getElem?_eq_some_iff.mp hi).1 C.nodup).mp (hi.trans hj.symm)
      omega
  have f' := f.put (t := s.toks + 1) C.nodup hi hl hv
  refine set_plain (G.X S) I C.setter (osa_raw (s := { s with toks := s.toks + 1 }) (G.X (S.tok _)) I C.plain N2 C.has hg (by rw [f'.len.1]; have := f'.len.2; have := C.few; omega) fun h' hd' hs => ?_)
  have z := S.turn G.ok (h' := h') (tk := s.toks + 2) (a := a) (d := dx) (ao' := .inst Γ.cls (putF fs i x)) e2 (fun o => nofun) (.inr hp) hbd (fun b o hb e => hs.extBut b o hb e) ⟨_, hd'⟩ ?_ fun o => nofun
  · exact h _ _ z.1 z.2
  · have hne : a ≠ dx := fun e => by rw [e, hp] at e2; cases e2
    refine ⟨dx, _, _, hs.extBut a _ hne I.at_, hd', f', ?_, hbd⟩
    rw [Sto.set_ne _ _ (Ne.symm hne)]; exact hp
end Mine
end
section
open PySem PySem.W PyProof.Rows PySem.SeqAt
set_option Elab.async false
set_option maxRecDepth 100000
namespace Mine
variable {κ : Kx} {Γ : Gx} {meths : List (PySem.Str × Addr)} {d : Nat} {env : Env} {vars : List (PySem.Str × Loc)}
theorem delE_len (k : Int) : ∀ es : List (Int × V), (delE k es).length ≤ es.length
  | [] => Nat.le_refl _
  | p :: r => by
    unfold delE
    split
    · simp
    · have := delE_len k r; simp; omega
theorem Ents.without {kvs : List (Int × Value)} {es : List (Int × V)} {k : Int} (h : Ents kvs es) (hn : (kvs.map (·.1)).Nodup) : Ents (without kvs k) (delE k es) := by
  induction h with
  | nil => exact .nil
  | @cons k' u y es fs hu hr ih =>
    have hn' := List.nodup_cons.mp hn
    unfold PySem.without delE
    dsimp only
    by_cases e : k' = k
    · subst e
      rw [if_pos rfl, List.filter_cons_of_neg (by simp)]
      have := without_of_not_mem es k' hn'.1
      unfold PySem.without at this
      rw [this]; exact hr
    · rw [if_neg e, List.filter_cons_of_pos (by simpa using e)]
      exact .cons hu (ih hn'.2)
theorem dict_turn (G : GOk κ Γ meths d) {σ : Sto} {s : Shared} (S : St κ σ s) {a : Addr} {es es' : List (Int × V)} {ep : Nat} {kvs' : List (Int × Value)} {h' : Heap} {tk : Nat} (e : σ a = some (.dict es ep)) (hD : h'.DictOf (intKind κ.prog κ.w) a kvs') (hs : Heap.SameBut a s.heap h')
    (he : Ents kvs' es') (hz : es'.length ≤ 1000000) : ∃ ep', St κ (σ.set a (.dict es' ep')) { s with heap := h', toks := tk } ∧ Fut [] σ s.heap (σ.set a (.dict es' ep')) h' := by
  obtain ⟨kvs, _, _, hb, _, lo⟩ := S.sits _ _ e
  obtain ⟨ep', hD'⟩ := hD.dictAt
  have ho : ∃ o, h'.get? a = some o := let ⟨o, _, eo, _⟩ := hD'; ⟨o, eo⟩
  exact ⟨ep', S.turn G.ok (tk := tk) e (fun o => nofun) (.inl rfl) hb (fun b o hb e => hs.extBut b o hb e) ho ⟨kvs', hD', he, hb, hz, lo⟩ fun o => nofun⟩
theorem list_turn (G : GOk κ Γ meths d) {σ : Sto} {s : Shared} (S : St κ σ s) {a : Addr} {xs ys : List V} {us : List Value} {n : Nat} {h' : Heap} {tk : Nat} (e : σ a = some (.list true xs)) (hl : h'.get? a = some (listOf us.toArray n)) (hs : Heap.SameBut a s.heap h') (hv : Vals us ys) (hz : ys.length ≤ 1000000) :
    St κ (σ.set a (.list true ys)) { s with heap := h', toks := tk } ∧ Fut [] σ s.heap (σ.set a (.list true ys)) h' := by
  obtain ⟨vs, _, _, _, hb, _⟩ := S.sits _ _ e
  exact S.turn G.ok (tk := tk) e (fun o => nofun) (.inl rfl) (hb rfl) (fun b o hb e => hs.extBut b o hb e) ⟨_, hl⟩ ⟨us, n, hl, hv, hb, hz⟩ fun o => nofun
theorem set_item (G : GOk κ Γ meths d) {σ : Sto} {s : Shared} (S : St κ σ s) {A : Around} {E : Value → Shared → Prop} {a : Addr} {es : List (Int × V)} {ep : Nat} {k : Int} {t : Tok} {v : Value} {x : V} {Q : Unit → Shared → Prop} (e : σ a = some (.dict es ep)) (hz : es.length ≤ 10000) (hv : Is v x)
    (h : ∀ h' tk ep', St κ (σ.set a (.dict (putE k x es) ep')) { s with heap := h', toks := tk } → Fut [] σ s.heap (σ.set a (.dict (putE k x es) ep')) h' → Q () { s with heap := h', toks := tk }) :
    wpAny (model κ.prog κ.w) A (setItem (.ref a) (.int k t) v) Q E s := by
  obtain ⟨kvs, hd, he, hb, _, lo⟩ := S.sits _ _ e
  refine wpAny_setItem_pairs (knd := intKind κ.prog κ.w) (k := k) (isInt_is (t := t)) hd.dictOf (fun h' hD hs => ?_) (by rw [he.length, sizeLine_eq]; omega)
  obtain ⟨ep', x1, x2⟩ := dict_turn G S (tk := s.toks + 1) e hD hs (he.stored (DictAt.nodup hd) hv) (by have := putE_len k x es; omega)
  exact h _ _ _ x1 x2
theorem erase_arr {vs : List Value} {k : Nat} (_hk : k < vs.length) : vs.toArray.eraseIdxIfInBounds k = (vs.eraseIdx k).toArray := by
  simp
theorem Vals.erase {vs : List Value} {xs : List V} (h : Vals vs xs) : ∀ k : Nat, Vals (vs.eraseIdx k) (xs.eraseIdx k) := by
  induction h with
  | nil => intro k; exact .nil
  | cons h1 h2 ih => intro k; cases k with | zero => exact h2 | succ k => exact .cons h1 (ih k)
noncomputable def BM.nm : BM → PySem.Str
  | .append => "append" | .popL => "pop" | .popD => "pop" | .clear => "clear"
noncomputable def BM.id : BM → String
  | .append => "list.append" | .popL => "list.pop" | .popD => "dict.pop" | .clear => "dict.clear"
noncomputable def BM.ty : BM → String
  | .append => "list" | .popL => "list" | .popD => "dict" | .clear => "dict"
theorem BM.facts (f : BM) : PlainAttrs f.ty ∧ Slot f.ty f.nm f.id ∧ typeOf (.builtin f.id) = pure (.type "method_descriptor") := by
  cases f with
  | append => exact ⟨PySem.F.plainAttrs_list, PySem.F.slot_list_append, PySem.F.type_list_append⟩
  | popL => exact ⟨PySem.F.plainAttrs_list, PySem.F.slot_list_pop, PySem.F.type_list_pop⟩
  | popD => exact ⟨PySem.F.plainAttrs_dict, PySem.F.slot_dict_pop, PySem.F.type_dict_pop⟩
  | clear => exact ⟨PySem.F.plainAttrs_dict, PySem.F.slot_dict_clear, PySem.F.type_dict_clear⟩
theorem BM.here {σ : Sto} {s : Shared} (S : St κ σ s) {f : BM} {v : Value} {x : V} (hv : Is v x) (h : bmOn f x σ) : ∃ a, v = .ref a ∧ x = .ref a ∧ s.TypeIs (.ref a) f.ty ∧ ∃ ob, s.heap.get? a = some ob ∧ ob.dict = none := by
  have list : ∀ a xs, σ a = some (.list true xs) → s.TypeIs (.ref a) "list" ∧ ∃ ob, s.heap.get? a = some ob ∧ ob.dict = none := fun a xs e => by
    obtain ⟨vs, n, o1, _⟩ := S.sits _ _ e
    exact ⟨⟨_, o1, rfl⟩, _, o1, rfl⟩
  have dict : ∀ a es ep, σ a = some (.dict es ep) → s.TypeIs (.ref a) "dict" ∧ ∃ ob, s.heap.get? a = some ob ∧ ob.dict = none := fun a es ep e => by
    obtain ⟨kvs, hd, _⟩ := S.sits _ _ e
    refine ⟨hd.dictOf.typeIs, ?_⟩
    obtain ⟨o, _, e1, e2, _⟩ := hd
    exact ⟨o, e1, e2.2.1⟩
  cases f <;> cases hv <;> first | exact h.elim | skip
  · obtain ⟨xs, e⟩ := h; exact ⟨_, rfl, rfl, list _ xs e⟩
  · obtain ⟨xs, e⟩ := h; exact ⟨_, rfl, rfl, list _ xs e⟩
  · obtain ⟨es, ep, e⟩ := h; exact ⟨_, rfl, rfl, dict _ es ep e⟩
  · obtain ⟨es, ep, e⟩ := h; exact ⟨_, rfl, rfl, dict _ es ep e⟩
theorem bm_call (G : GOk κ Γ meths d) {σ : Sto} {s : Shared} (S : St κ σ s) {A : Around} {f : BM} {a : Addr} {args : List Value} {xs : List V} {q : Post} (h : bmW Γ f (.ref a) xs q σ) (hv : Vals args xs) :
    Goes κ [] A (call (.builtin f.id) (.ref a :: args)) σ s (fun v σ' => ∃ x, Is v x ∧ q x σ') := by
  cases f with
  | append =>
    cases hv with
    | nil => exact h.elim
    | cons iv hr =>
      cases hr with
      | cons _ _ => exact h.elim
      | nil =>
        obtain ⟨ys, e, hz, hq⟩ := h
        obtain ⟨vs, n, o1, hvs, hb, _⟩ := S.sits _ _ e
        refine wpAny_list_append_plain ⟨n, o1⟩ (fun h' hp hs => ?_) (by rw [List.size_toArray, hvs.length, sizeLine_eq]; omega)
        obtain ⟨n', hp⟩ := hp
        rw [List.push_toArray] at hp
        obtain ⟨x1, x2⟩ := list_turn G S (tk := s.toks) e hp hs (hvs.append (.cons iv .nil)) (by rw [List.length_append]; show _ + 1 ≤ _; omega)
        exact ⟨_, Way.of' x2, x1, _, .none, hq⟩
  | popL =>
    cases hv with
    | nil => exact h.elim
    | cons iv hr =>
      cases hr with
      | cons _ _ => cases iv <;> exact h.elim
      | nil =>
        cases iv with
        | int k t =>
          obtain ⟨ys, e, h0, y, hy, hz, hq⟩ := h
          obtain ⟨vs, n, o1, hvs, hb, _⟩ := S.sits _ _ e
          obtain ⟨v, hv, iv⟩ := get_back hvs hy
          have hlt : k.toNat < vs.toArray.size := (Array.getElem?_eq_some_iff.mp hv).1
          have hsz : vs.toArray.size = ys.length := by rw [List.size_toArray, hvs.length]
          have hf : Builtin.List.listFitsIndex k = true := by
            unfold Builtin.List.listFitsIndex
            simp
            omega
          refine call_meets PySem.F.slot_list_pop ⟨_, o1, rfl⟩ PySem.F.entry_list_pop (PySem.F.args_list_pop_2 _ _) (PySem.MeetsSeq.list_pop_at a _ n k t _ v hf (seqIndex_of h0 (by omega)) hv (by rw [hsz, sizeLine_eq]; omega)) ⟨o1, ?_⟩
          have q := PySem.IsL.update o1 (fun xs => xs.eraseIdxIfInBounds k.toNat)
          rw [erase_arr (by simpa using hlt)] at q
          obtain ⟨x1, x2⟩ := list_turn G S (tk := s.toks) e q (Heap.SameBut.update ..) (hvs.erase _) (by have := List.length_eraseIdx_le ys k.toNat; omega)
          exact ⟨_, Way.of' x2, x1, _, iv, hq⟩
        | _ => exact h.elim
  | popD =>
    cases hv with
    | nil => exact h.elim
    | cons iv hr =>
      cases hr with
      | cons _ _ => cases iv <;> exact h.elim
      | nil =>
        cases iv with
        | int k t =>
          obtain ⟨es, ep, e, y, hy, hz, hq⟩ := h
          obtain ⟨kvs, hd, he, hb, _, lo⟩ := S.sits _ _ e
          obtain ⟨v, hv, iv⟩ := (he.valueAt k).2 y hy
          refine call_meetsIn PySem.F.slot_dict_pop hd.dictOf.typeIs PySem.F.entry_dict_pop (PySem.F.args_dict_pop_2 _ _) (meets_dict_pop_there (intKind κ.prog κ.w) a (k := k) (key := .int k t) (isInt_is (t := t)) [] (.inl rfl) rfl) ⟨kvs, v, hd.dictOf, by rw [he.length, sizeLine_eq]; omega, hv, fun h' hD hs => ?_⟩
          obtain ⟨ep', x1, x2⟩ := dict_turn G S (tk := s.toks + 1) e hD hs (he.without (DictAt.nodup hd)) (by have := delE_len k es; omega)
          exact ⟨_, Way.of x2, x1, _, iv, hq ep'⟩
        | _ => exact h.elim
  | clear =>
    cases hv with
    | cons _ _ => exact h.elim
    | nil =>
      obtain ⟨es, ep, e, hq⟩ := h
      obtain ⟨kvs, hd, he, hb, hz, lo⟩ := S.sits _ _ e
      refine call_meetsIn PySem.F.slot_dict_clear hd.dictOf.typeIs PySem.F.entry_dict_clear (PySem.F.args_dict_clear_1 _) (meets_dict_clear (intKind κ.prog κ.w) a) ⟨kvs, hd.dictOf, by rw [he.length, sizeLine_eq]; omega, fun h' hD hs => ?_⟩
      obtain ⟨ep', x1, x2⟩ := dict_turn G S (tk := s.toks) e hD hs .nil (Nat.zero_le _)
      exact ⟨_, Way.of' x2, x1, _, .none, hq ep'⟩
end Mine
end
section
open PySem PySem.W PyProof.Rows PySem.SeqAt
set_option Elab.async false
set_option maxRecDepth 100000
namespace Mine
variable {κ : Kx} {Γ : Gx} {meths : List (PySem.Str × Addr)} {d : Nat} {env : Env} {vars : List (PySem.Str × Loc)}
theorem args_go {M : Model} {A : Around} {E : Value → Shared → Prop} {s : Shared} {f : Value} {trees : List (Bool × Sem Value)} {Q : Args → Shared → Prop} (hp : trees.any (·.1) = false)
    (h : wpAny M A (spliced trees) (fun vs s' => Q ⟨vs, []⟩ s') E s) : wpAny M A (evalArgs f true trees []) Q E s := by
  unfold evalArgs
  cases trees with
  | nil =>
    show wpAny M A (spliced [] >>= _) Q E s
    refine wpAny_bind (wpAny_mono h (fun vs s' h' => ?_) fun _ _ x => x)
    refine wpAny_bind (wpAny_pure (wpAny_holding ?_))
    exact wpAny_bind (wpAny_pure (wpAny_bind (wpAny_pure (wpAny_pure h'))))
  | cons p rest =>
    obtain ⟨b, x⟩ := p
    cases b with
    | true => simp at hp
    | false =>
      show wpAny M A (spliced ((false, x) :: rest) >>= _) Q E s
      refine wpAny_bind (wpAny_mono h (fun vs s' h' => ?_) fun _ _ x => x)
      refine wpAny_holding ?_
      exact wpAny_bind (wpAny_pure (wpAny_bind (wpAny_pure (wpAny_pure h'))))
noncomputable def notStar : PySem.Expr → Bool
  | .Starred _ _ => false
  | _ => true
theorem star_cons {e : PySem.Expr} {es : List PySem.Expr} (h : notStar e = true) (env : Env) : starEach (e :: es) env = (false, eval e env) :: starEach es env := by
  cases e <;> first | rfl | cases h
theorem star_all : ∀ {es : List PySem.Expr}, es.all notStar = true → ∀ (env : Env) (pos : Pos), (backTo pos (starEach es env)).any (·.1) = false
  | [], _, _, _ => rfl
  | e :: es, h, env, pos => by
    have h' := Bool.and_eq_true_iff.mp h
    rw [star_cons h'.1]
    show (false || (backTo pos (starEach es env)).any (·.1)) = false
    rw [star_all h'.2]; rfl
theorem star_form : ∀ {es : List PySem.Expr}, es.all notStar = true → ∀ (env : Env) (pos : Pos), (backTo pos (starEach es env)).all (fun x => !x.1) = true
  | [], _, _, _ => rfl
  | e :: es, h, env, pos => by
    have h' := Bool.and_eq_true_iff.mp h
    rw [star_cons h'.1]
    show (true && (backTo pos (starEach es env)).all (fun x => !x.1)) = true
    rw [star_form h'.2]; rfl
theorem go_args {f : Value} {first : List Value} {es : List PySem.Expr} {w : (List V → Sto → Prop) → Env0 → Sto → Prop} {P : Heap → Prop} (hst : es.all notStar = true) (h : SEs κ d env vars es w)
    (hk : ∀ h, P h → ∃ k, (k = Keeper.frame ∨ k = Keeper.machine ∨ k = Keeper.boundFrame) ∧ Looks (model κ.prog κ.w) h (keeperOf f) k)
    {A : Around} {s : Shared} {σ : Sto} {ε : Env0} {q : List V → Sto → Prop} {R : Value → Sto → Prop} {pos : Pos} (r : Room A d) (S : St κ σ s) (F : FrameSt vars ε σ s.heap) (hw : w q ε σ)
    (hc : ∀ vs xs s1 σ1, Way [] σ s σ1 s1 → St κ σ1 s1 → Vals vs xs → q xs σ1 → P s1.heap ∧ Goes κ [] A (call f (first ++ vs)) σ1 s1 R) :
    Goes κ [] A (callWith pos f first (backTo pos (starEach es env)) []) σ s R := by
  refine callWith_of (P := P) (by rw [star_all hst]; rfl) hk (args_go (star_all hst env pos) (wpAny_mono (h A s σ ε q pos r S F hw) (fun vs s1 zz => ?_) fun _ _ z => z))
  obtain ⟨σ1, w1, S1, xs, hv, _, q1⟩ := zz
  obtain ⟨a, b⟩ := hc vs xs s1 σ1 w1 S1 hv q1
  exact ⟨a, Goes.up w1 b⟩
theorem Call_args {x : PySem.Str} {p pos : Pos} {es : List PySem.Expr} {M : Model} {A : Around} {E : Value → Shared → Prop} {s : Shared} {Q : Value → Shared → Prop}
    (h : wpAny M A (eval (.Name x p) env) (fun f s₁ => wpAny M A (callWith pos f [] (backTo pos (starEach es env)) []) Q E s₁) E s) : wpAny M A (eval (.Call (.Name x p) es [] pos) env) Q E s := Call_Name rfl h
noncomputable def BI.nm : BI → PySem.Str
  | .len => "len" | .sorted => "sorted" | .max => "max" | .dict => "dict" | .bytes => "bytes" | .list => "list" | .range => "range"
theorem BI.boot (f : BI) : bootBuiltins f.nm = some f.val ∧ f.nm ≠ "__name__" ∧ (f.nm == ("__debug__" : PySem.Str)) = false := by
  cases f
  · exact ⟨boot_len, by decide, by decide⟩
  · exact ⟨by decide +kernel, by decide, by decide⟩
  · exact ⟨boot_max, by decide, by decide⟩
  · exact ⟨(by decide +kernel), by decide, by decide⟩
  · exact ⟨by decide +kernel, by decide, by decide⟩
  · exact ⟨(by decide +kernel), by decide, by decide⟩
  · exact ⟨boot_range, by decide, by decide⟩
theorem name_boot {ce : CEnv} (G : GOk κ Γ meths d) (eo : EnvOk env ce vars) {f : BI} {pos : Pos} {A : Around} {s : Shared} {σ : Sto} {E : Value → Shared → Prop} {Q : Value → Shared → Prop} (S : St κ σ s) (hl : ce.names.lookup f.nm = some .globalImplicit)
    (hg : nsIn κ.K mainGlobals f.nm = some none) (h : Q f.val s) : wpAny (model κ.prog κ.w) A (eval (.Name f.nm pos) env) Q E s := by
  have T := G.ok.T.keeps (fun b o e => S.base b o e)
  obtain ⟨b1, b2, b3⟩ := f.boot
  refine Calls.Name_function_global eo.kind (by unfold Env.kindOf; rw [eo.names]; exact hl) (Calls.loadGlobal_builtin (mg := κ.mg) (mb := κ.mb) (by rw [eo.globals]; exact T.g) (mg_none_of (G.X S) T.g hg) (by rw [eo.builtins]; exact T.b) ((T.builtins _ b2).trans b1) h) b3
theorem se_bi {ce : CEnv} (G : GOk κ Γ meths d) (eo : EnvOk env ce vars) {f : BI} {p pos : Pos} {e : PySem.Expr} {pe : PE} (hl : ce.names.lookup f.nm = some .globalImplicit) (hg : nsIn κ.K mainGlobals f.nm = some none) (hst : notStar e = true)
    (he : SE κ d env vars e (wpE Γ pe)) : SE κ d env vars (.Call (.Name f.nm p) [e] [] pos) (wpE Γ (.bi f pe)) := by
  rintro A s σ ε q r S F hq
  refine Call_args (name_boot G eo S hl hg ?_)
  have hst' : [e].all notStar = true := by simp [hst]
  have hs := ses_cons (star_cons (es := []) hst env) he (ses_nil (κ := κ) (Γ := Γ) (d := d) (env := env) (vars := vars))
  have key := hs A s σ ε (fun xs σ' => ∃ x, xs = [x] ∧ biW Γ f x q σ') pos r S F (by
    show wpE Γ pe (fun x σ' => ∃ y, [x] = [y] ∧ biW Γ f y q σ') ε σ
    exact cast (congrArg (fun z => wpE Γ pe z ε σ) (funext fun x => funext fun σ' => propext ⟨fun h => ⟨x, rfl, h⟩, fun ⟨y, e, h⟩ => by cases e; exact h⟩)) hq)
  have fin : ∀ vs s1, After κ [] σ s (fun vs σ' => ∃ xs, Vals vs xs ∧ vs.length = [e].length ∧ ∃ x, xs = [x] ∧ biW Γ f x q σ') vs s1 → wpAny (model κ.prog κ.w) A (call f.val vs) (After κ [] σ s fun v σ' => ∃ x, Is v x ∧ q x σ') noE s1 := by
    rintro vs s1 ⟨σ1, w1, S1, xs, hv, _, x, rfl, hb⟩
    cases hv with
    | cons iv hr => cases hr; exact Goes.up w1 (bi_ok G S1 r hb iv)
  have b : ∀ id, wpAny (model κ.prog κ.w) A (evalArgs (.builtin id) true (backTo pos (starEach [e] env)) []) (fun a s₁ => ∃ vs, a = ⟨vs, []⟩ ∧ After κ [] σ s (fun vs σ' => ∃ xs, Vals vs xs ∧ vs.length = [e].length ∧ ∃ x, xs = [x] ∧ biW Γ f x q σ') vs s₁) noE s :=
    fun id => args_go (star_all hst' env pos) (wpAny_mono key (fun vs s1 h => ⟨vs, rfl, h⟩) fun _ _ z => z)
  have t : ∀ T, wpAny (model κ.prog κ.w) A (evalArgs (.type T) true (backTo pos (starEach [e] env)) []) (fun a s₁ => ∃ vs, a = ⟨vs, []⟩ ∧ After κ [] σ s (fun vs σ' => ∃ xs, Vals vs xs ∧ vs.length = [e].length ∧ ∃ x, xs = [x] ∧ biW Γ f x q σ') vs s₁) noE s :=
    fun id => args_go (star_all hst' env pos) (wpAny_mono key (fun vs s1 h => ⟨vs, rfl, h⟩) fun _ _ z => z)
  cases f with
  | len => exact Calls.callWith_builtin (star_all hst' env pos) (wpAny_mono (b "len") (fun a s1 ⟨vs, e, h⟩ => by subst e; exact fin vs s1 h) fun _ _ z => z)
  | sorted => exact Calls.callWith_builtin (star_all hst' env pos) (wpAny_mono (b "sorted") (fun a s1 ⟨vs, e, h⟩ => by subst e; exact fin vs s1 h) fun _ _ z => z)
  | max => exact Calls.callWith_builtin (star_all hst' env pos) (wpAny_mono (b "max") (fun a s1 ⟨vs, e, h⟩ => by subst e; exact fin vs s1 h) fun _ _ z => z)
  | dict => exact PyProof.Rows.callWith_type (star_all hst' env pos) (wpAny_mono (t "dict") (fun a s1 ⟨vs, e, h⟩ => by subst e; exact fin vs s1 h) fun _ _ z => z)
  | bytes => exact PyProof.Rows.callWith_type (star_all hst' env pos) (wpAny_mono (t "bytes") (fun a s1 ⟨vs, e, h⟩ => by subst e; exact fin vs s1 h) fun _ _ z => z)
  | list => exact PyProof.Rows.callWith_type (star_all hst' env pos) (wpAny_mono (t "list") (fun a s1 ⟨vs, e, h⟩ => by subst e; exact fin vs s1 h) fun _ _ z => z)
  | range => exact PyProof.Rows.callWith_type (star_all hst' env pos) (wpAny_mono (t "range") (fun a s1 ⟨vs, e, h⟩ => by subst e; exact fin vs s1 h) fun _ _ z => z)
theorem fn_call (G : GOk κ Γ meths d) {A : Around} {s : Shared} {σ : Sto} {f : Addr} {args : List Value} {xs : List V} {q : Post} (r : Room A d) (S : St κ σ s) (hv : Vals args xs) (h : Γ.fn f xs q σ) :
    Goes κ [] A (call (.ref f) args) σ s (fun v σ' => ∃ x, Is v x ∧ q x σ') :=
  wpAny_call (codeAny_mono (G.fn f xs q σ A s args h r S hv) fun r s' ⟨v, e, a⟩ => by subst e; exact a)
theorem se_fn {ce : CEnv} (G : GOk κ Γ meths d) (eo : EnvOk env ce vars) {n : PySem.Str} {f : Addr} {p pos : Pos} {es : List PySem.Expr} {pes : PEs} (hl : ce.names.lookup n = some .globalImplicit) (hg : nsIn κ.K mainGlobals n = some (some (.ref f)))
    (hd : (n == ("__debug__" : PySem.Str)) = false) (hk : keepIn κ.K (.ref f) = true) (hst : es.all notStar = true) (he : SEs κ d env vars es (wpEs Γ pes)) : SE κ d env vars (.Call (.Name n p) es [] pos) (wpE Γ (.fn f pes)) := by
  rintro A s σ ε q r S F hq
  have T := G.ok.T.keeps (fun b o e => S.base b o e)
  refine Call_args (Calls.Name_function_global eo.kind (by unfold Env.kindOf; rw [eo.names]; exact hl) (Calls.loadGlobal_global (mg := κ.mg) (by rw [eo.globals]; exact T.g) (mg_of (G.X S) T.g hg) ?_) hd)
  exact go_args (P := κ.K.In) hst he (fun h X => keeps_K hk h X) r S F hq fun vs xs s1 σ1 w1 S1 hv q1 => ⟨G.X S1, fn_call G r S1 hv q1⟩
theorem call_meth {M : Model} {A : Around} {E : Value → Shared → Prop} {s : Shared} {o : PySem.Expr} {name : PySem.Str} {apos pos : Pos} {args : List PySem.Expr} {Q : Value → Shared → Prop}
    (hbase : attributeBase o name env (eval o env) = eval o env) (hst : args.all notStar = true) (hfew : decide (args.length < 29) = true) (hline : (apos.endLine == pos.line) = true)
    (h : wpAny M A (eval o env) (fun ov s₁ => ∀ pl, wpAny M A (getMethod ov name pl) (fun p s₂ => wpAny M A (callWith pos p.1 p.2 (backTo pos (starEach args env)) []) Q E s₂) E s₁) E s) :
    wpAny M A (eval (.Call (.Attribute o name apos) args [] pos) env) Q E s := by
  rw [arm_eval_Call, hbase]
  refine wpAny_bind (wpAny_mono h (fun ov s₁ hc => ?_) fun _ _ e => e)
  refine wpAny_bind (wpAny_standAt ?_)
  have hform : methodCallForm (args.length + ([] : List Keyword).length) (backTo pos (starEach args env)) (backToKw pos (keywordEach [] env)) = true := by
    unfold methodCallForm
    rw [star_form hst]
    have := of_decide_eq_true hfew
    show (true && true && decide (args.length + 0 + 0 < 30)) = true
    simp
    omega
  have hpos : methodCallPos true o env apos pos = pure pos := by unfold methodCallPos; simp [hline]
  unfold methodCall
  rw [hform]
  refine wpAny_bind (wpAny_holding (wpAny_mono (hc _) (fun p s₂ h₂ => ?_) fun _ _ e => e))
  exact wpAny_bind (wpAny_of_eq hpos h₂)
theorem se_meth (G : GOk κ Γ meths d) {o : PySem.Expr} {n : PySem.Str} {apos pos : Pos} {es : List PySem.Expr} {po : PE} {pes : PEs} {i : Nat} {f : Addr} (hb : attributeBase o n env (eval o env) = eval o env) (hst : es.all notStar = true) (hfew : decide (es.length < 29) = true)
    (hline : (apos.endLine == pos.line) = true) (hi : meths[i]? = some (n, f)) (hk : keepIn κ.K (.ref f) = true) (ho : SE κ d env vars o (wpE Γ po)) (he : SEs κ d env vars es (wpEs Γ pes)) :
    SE κ d env vars (.Call (.Attribute o n apos) es [] pos) (wpE Γ (.meth po i pes)) := by
  rintro A s σ ε q r S F hq
  refine call_meth hb hst hfew hline (wpAny_mono (ho A s σ ε _ r S F hq) (fun ov s1 ⟨σ1, w1, S1, x, ix, ⟨a, fs, e1, e2⟩, q1⟩ pl => ?_) fun _ _ z => z)
  subst e1
  cases ix
  have C := G.clsOk
  obtain ⟨dx, es', m, I, fl, _⟩ := inst_at (S1.sits _ _ e2)
  have Mo := C.meth i (n, f) hi
  simp only [methOk, Bool.and_eq_true, beq_iff_eq, Bool.not_eq_true', List.contains_eq_mem, decide_eq_false_iff_not] at Mo
  obtain ⟨⟨⟨m1, m2⟩, m3⟩, m4⟩ := Mo
  refine method_fn (G.X S1) I (plainGet_of m1).1 (plainGet_of m1).2 m2 (beq_iff_eq.mp m3) (by show (lookIn n (dictOf es' m)).map _ = _; rw [lookIn_dict, fl.miss fun j hj => absurd (List.mem_of_getElem? hj) m4]; rfl) ?_
  have em : Γ.meth i = f := G.meth i (n, f) hi
  have key := go_args (first := [.ref a]) (pos := pos) (P := κ.K.In) hst he (fun h X => keeps_K hk h X) r S1 (F.keep w1.fut) q1 (R := fun v σ' => ∃ x, Is v x ∧ q x σ') fun vs xs s2 σ2 w2 S2 hv q2 => ⟨G.X S2, ?_⟩
  · exact Goes.up w1 key
  · rw [em] at q2
    exact fn_call G r S2 (.cons (.ref a) hv) q2
theorem se_bm (G : GOk κ Γ meths d) {o : PySem.Expr} {f : BM} {apos pos : Pos} {es : List PySem.Expr} {po : PE} {pes : PEs} (hb : attributeBase o f.nm env (eval o env) = eval o env) (hst : es.all notStar = true) (hfew : decide (es.length < 29) = true)
    (hline : (apos.endLine == pos.line) = true) (ho : SE κ d env vars o (wpE Γ po)) (he : SEs κ d env vars es (wpEs Γ pes)) : SE κ d env vars (.Call (.Attribute o f.nm apos) es [] pos) (wpE Γ (.bm po f pes)) := by
  rintro A s σ ε q r S F hq
  refine call_meth hb hst hfew hline (wpAny_mono (ho A s σ ε _ r S F hq) (fun ov s1 ⟨σ1, w1, S1, x, ix, on, q1⟩ pl => ?_) fun _ _ z => z)
  obtain ⟨a, e1, e2, t1, t2⟩ := BM.here S1 ix on
  subst e1 e2
  obtain ⟨b1, b2, b3⟩ := f.facts
  refine getMethod_builtin t1 b1 b2 b3 (fun a' e => by cases e; exact t2) ?_
  refine Calls.callWith_builtin (star_all hst env pos) (args_go (star_all hst env pos) (wpAny_mono (he A s1 σ1 ε _ pos r S1 (F.keep w1.fut) q1) (fun vs s2 zz => ?_) fun _ _ z => z))
  obtain ⟨σ2, w2, S2, xs, hv, _, q2⟩ := zz
  exact Goes.up (w1.trans w2) (bm_call G S2 q2 hv)
end Mine
end
section
open PySem PySem.W PyProof.Rows PySem.SeqAt
set_option Elab.async false
set_option maxRecDepth 100000
namespace Mine
variable {κ : Kx} {Γ : Gx} {meths : List (PySem.Str × Addr)} {d : Nat} {env : Env} {vars : List (PySem.Str × Loc)}
theorem St.adopt (O : κ.Ok) {σ : Sto} {s : Shared} {a : Addr} {ao : AO} (S : St κ σ s) (z : σ a = none) (n : Sits κ (σ.set a ao) s.heap a ao) : St κ (σ.set a ao) s := by
  refine ⟨fun b o e => ?_, S.base⟩
  by_cases q : b = a
  · subst q; rw [Sto.set_self] at e; cases e; exact n
  · rw [Sto.set_ne σ ao q] at e
    refine (S.sits b o e).keep O (fun _ _ _ e => e) fun c hc => ?_
    rw [Sto.set_ne σ ao (fun y => by rw [y, z] at hc; cases hc)]; exact hc
theorem Fut.still {W : List Addr} {σ σ' : Sto} {h h' : Heap} (w : Fut W σ h σ' h') {a : Addr} {o : Obj} (e : h.get? a = some o) (z : σ a = none) : σ' a = none := by
  cases q : σ' a with
  | none => rfl
  | some y =>
    rcases w.dom a (by rw [q]; exact fun z => nomatch z) with x | x
    · exact absurd z x
    · rw [e] at x; cases x
theorem Way.push (W : List Addr) (σ : Sto) (s : Shared) (ob : Obj) : Way W σ s σ { s with heap := s.heap.push ob } := Way.of' ⟨fun _ _ e _ _ => Heap.get?_push_of_some _ e, fun _ e => .inl e⟩
theorem St.pushed (O : κ.Ok) {σ : Sto} {s : Shared} (S : St κ σ s) (ob : Obj) : St κ σ { s with heap := s.heap.push ob } := S.aside O (tk := s.toks) fun _ _ e _ => Heap.get?_push_of_some _ e
theorem after_adopt (G : GOk κ Γ meths d) {σ σ1 : Sto} {s s1 : Shared} {a : Addr} {h' : Heap} {tk : Nat} {ao : AO} (S : St κ σ s) (ha : s.heap.get? a = none) (w1 : Way [] σ s σ1 s1) (S1 : St κ σ1 s1) (z : σ1 a = none)
    (k : ∀ b o, b ≠ a → s1.heap.get? b = some o → h'.get? b = some o) (n : Sits κ (σ1.set a ao) h' a ao) :
    St κ (σ1.set a ao) { s1 with heap := h', toks := tk } ∧ Way [] σ s (σ1.set a ao) { s1 with heap := h', toks := tk } ∧ New Γ σ1 a := by
  have hb : κ.base.get? a = none := S.base_none ha
  have S2 : St κ σ1 { s1 with heap := h', toks := tk } := S1.aside G.ok fun b o e hσ => k b o (fun q => by subst q; rcases hσ with h | h; exact h z; exact h hb) e
  refine ⟨S2.adopt G.ok z n, ?_, z, (new_of G S ha).2⟩
  obtain ⟨⟨h, tk', e⟩, u⟩ := w1
  refine ⟨⟨h', tk, by rw [e]⟩, ⟨fun b o eb hn hw => k b o (fun q => by subst q; rw [ha] at eb; cases eb) (u.keep b o eb hn hw), fun c hc => ?_⟩⟩
  by_cases q : c = a
  · subst q; exact .inr ha
  · rw [Sto.set_ne σ1 ao q] at hc; exact u.dom c hc
noncomputable def PairsAre (κ : Kx) (vs : List (Value × Value)) (ps : List (Int × V)) : Prop := ∃ kvs : List (Int × Value), Carries (intKind κ.prog κ.w) vs kvs ∧ Ents kvs ps
noncomputable def SDs (κ : Kx) (d : Nat) (_env : Env) (vars : List (PySem.Str × Loc)) (trees : List (Sem Value × Sem Value)) (w : (List (Int × V) → Sto → Prop) → Env0 → Sto → Prop) : Prop :=
  ∀ A s σ ε q, Room A d → St κ σ s → FrameSt vars ε σ s.heap → w q ε σ → Goes κ [] A (evalPairs trees) σ s (fun vs σ' => ∃ ps, PairsAre κ vs ps ∧ vs.length = trees.length ∧ q ps σ')
theorem sds_nil : SDs κ d env vars [] (wpDs Γ .nil) := fun _ _ _ _ _ _ S _ hq => evalPairs_nil (After.now S ⟨[], ⟨[], trivial, .nil⟩, rfl, hq⟩)
theorem sds_cons {k v : PySem.Expr} {ks : List (Option PySem.Expr)} {vs : List PySem.Expr} {pos : Pos} {pk pv : PE} {pr : PEs} (hk : SE κ d env vars k (wpE Γ pk)) (hv : SE κ d env vars v (wpE Γ pv)) (hr : SDs κ d env vars (pairTrees ks vs env pos) (wpDs Γ pr)) :
    SDs κ d env vars (pairTrees (some k :: ks) (v :: vs) env pos) (wpDs Γ (.cons pk (.cons pv pr))) := by
  rintro A s σ ε q r S F hq
  refine evalPairs_cons (wpAny_mono (hk A s σ ε _ r S F hq) (fun kv s1 zz => ?_) fun _ _ z => z)
  obtain ⟨σ1, w1, S1, y, iy, i, e, q1⟩ := zz
  subst e
  cases iy with
  | int _ t =>
    refine wpAny_bind (wpAny_mono (hv A s1 σ1 ε _ r S1 (F.keep w1.fut) q1) (fun vv s2 zz => ?_) fun _ _ z => z)
    obtain ⟨σ2, w2, S2, x, ix, q2⟩ := zz
    refine wpAny_bind (wpAny_standAt (wpAny_pure ?_))
    refine wpAny_mono (hr A s2 σ2 ε _ r S2 (F.keep (w1.trans w2).fut) q2) (fun us s3 ⟨σ3, w3, S3, ps, ⟨kvs, c, en⟩, hl, q3⟩ => ?_) fun _ _ z => z
    exact ⟨σ3, (w1.trans w2).trans w3, S3, (i, x) :: ps, ⟨(i, vv) :: kvs, ⟨isInt_is (t := t), rfl, c⟩, .cons ix en⟩, by simp [hl, pairTrees], q3⟩
theorem stored_nodup {kvs : List (Int × Value)} (hn : (kvs.map (·.1)).Nodup) (k : Int) (v : Value) : ((stored kvs k v).map (·.1)).Nodup := by
  unfold PySem.stored
  split
  · rw [List.map_map]
    have e : ((fun x : Int × Value => x.1) ∘ fun kv : Int × Value => if kv.1 = k then (kv.1, v) else kv) = fun x => x.1 := by
      funext x
      show (if x.1 = k then (x.1, v) else x).1 = x.1
      split <;> rfl
    rw [e]; exact hn
  · rename_i h
    rw [List.map_append, List.nodup_append]
    refine ⟨hn, by simp, fun a ha b hb e => h ?_⟩
    simp at hb
    subst hb
    obtain ⟨p, hp, rfl⟩ := List.mem_map.mp ha
    exact List.any_eq_true.mpr ⟨p, hp, by simpa using e⟩
theorem ents_merged : ∀ {kvs : List (Int × Value)} {ps : List (Int × V)} (_ : Ents kvs ps) {acc : List (Int × Value)} {es : List (Int × V)}, Ents acc es → (acc.map (·.1)).Nodup → Ents (merged acc kvs) (ps.foldl (fun es p => putE p.1 p.2 es) es) ∧ (ps.foldl (fun es p => putE p.1 p.2 es) es).length ≤ es.length + ps.length := by
  intro kvs ps h
  induction h with
  | nil => intro acc es ha _; exact ⟨ha, Nat.le_refl _⟩
  | @cons k v x kvs ps hv _ ih =>
    intro acc es ha hn
    obtain ⟨a, b⟩ := ih (ha.stored (k := k) hn hv) (stored_nodup hn k v)
    refine ⟨a, ?_⟩
    have := putE_len k x es
    rw [List.foldl_cons, List.length_cons]
    dsimp only
    omega
theorem empty_dict {h : Heap} {a : Addr} (e : h.get? a = some { cls := .type "dict", data := .dict #[] }) : h.DictOf (intKind κ.prog κ.w) a [] := by
  obtain ⟨o, es, ep, _, r⟩ := Heap.DictOf.new (knd := intKind κ.prog κ.w) h
  exact ⟨_, #[], 0, e, ⟨rfl, rfl, rfl⟩, rfl, fun _ h => by simp at h, .nil, List.nodup_nil⟩
theorem se_dict (G : GOk κ Γ meths d) {keys : List (Option PySem.Expr)} {values : List PySem.Expr} {pos : Pos} {pr : PEs} (hall : keys.all (·.isSome) = true) (hl : keys.length = values.length) (h0 : keys ≠ []) (hlen : keys.length ≤ 15)
    (h : SDs κ d env vars (pairTrees keys values env pos) (wpDs Γ pr)) : SE κ d env vars (.Dict keys values pos) (wpE Γ (.dict pr)) := by
  rintro A s σ ε q r S F hq
  have ha := fresh_none s.heap
  have hσ := S.none_of G.ok ha
  have w0 : Way [] σ s σ { s with heap := s.heap.push { cls := .type "dict", data := .dict #[] } } := Way.push [] σ s _
  refine wpAny_Dict_any hall hl h0 hlen (wpAny_mono (h A _ σ ε _ r (S.pushed G.ok _) (F.keep w0.fut) hq) (fun vs s1 ⟨σ1, w1, S1, ps, ⟨kvs, hc, he⟩, hvl, q1⟩ => ?_) fun _ _ z => z)
  have h00 : (s.heap.push { cls := .type "dict", data := .dict #[] }).get? s.heap.objs.size = some { cls := .type "dict", data := .dict #[] } := Heap.get?_push_size _ rfl
  have h1 : s1.heap.get? s.heap.objs.size = some { cls := .type "dict", data := .dict #[] } := w1.fut.keep _ _ h00 hσ (fun h => nomatch h)
  have hσ1 := w1.fut.still h00 hσ
  have hn : ps.length ≤ 15 := by
    rw [← he.length, hc.length, hvl, pairTrees_length keys values env pos hall hl]; exact hlen
  unfold storeAll
  refine wpAny_storeAll vs kvs [] s1 _ hc (empty_dict h1) (by rw [he.length, sizeLine_eq]; show 0 + ps.length ≤ _; omega) fun h' hD hs => ?_
  obtain ⟨ep, hD⟩ := hD.dictAt
  obtain ⟨e1, e2⟩ := ents_merged he (acc := []) (es := []) .nil List.nodup_nil
  obtain ⟨x, y, z⟩ := after_adopt G (tk := s1.toks + vs.length) (ao := .dict _ ep) S ha (w0.trans w1) S1 hσ1 (fun b o hb eb => hs.extBut b o hb eb) ⟨_, hD, e1, S.base_none ha, by simp at e2; omega, new_low G S⟩
  exact ⟨_, y, x, _, .ref _, q1 _ z ep⟩
theorem se_dict0 (G : GOk κ Γ meths d) {pos : Pos} : SE κ d env vars (.Dict [] [] pos) (wpE Γ (.dict .nil)) := by
  rintro A s σ ε q r S F hq
  refine wpAny_Dict_empty ?_
  obtain ⟨ep, hD⟩ := (empty_dict (κ := κ) (Heap.get?_push_size s.heap (o := { cls := .type "dict", data := .dict #[] }) rfl)).dictAt
  exact after_made (tk := s.toks) (ao := .dict [] ep) G S (fresh_none _) (fun b o e => Heap.get?_push_of_some _ e) ⟨_, hD, .nil, S.base_none (fresh_none _), Nat.zero_le _, new_low G S⟩ fun l hl => hq l hl ep
theorem sc_chain (G : GOk κ Γ meths d) {o1 o2 : CmpOp} {a b c : PySem.Expr} {pos : Pos} {pa pb pc : PE} (hm : lastMarks [o1, o2] [b, c] = false) (ha : SE κ d env vars a (wpE Γ pa)) (hb : SE κ d env vars b (wpE Γ pb)) (hc : SE κ d env vars c (wpE Γ pc)) :
    SC κ d env vars (.Compare a [o1, o2] [b, c] pos) (wpC Γ (.chain pa (cOp o1) pb (cOp o2) pc)) := by
  rintro A s σ ε q r S F hq
  refine isTrue_chain (wpAny_mono (ha A s σ ε _ r S F hq) (fun v s1 zz => ?_) fun _ _ z => z) hm
  obtain ⟨σ1, w1, S1, x, ix, q1⟩ := zz
  refine test_link (wpAny_mono (hb A s1 σ1 ε _ r S1 (F.keep w1.fut) q1) (fun u s2 zz => ?_) fun _ _ z => z)
  obtain ⟨σ2, w2, S2, y, iy, q2⟩ := zz
  refine wpAny_mono (op_ok G S2 r q2 ix iy) (fun z s3 zz => ?_) fun _ _ z => z
  obtain ⟨σ3, w3, S3, t, e, q3⟩ := zz
  subst e
  refine wpAny_truthy_bool ?_
  have w := (w1.trans w2).trans w3
  cases t with
  | false => exact ⟨σ3, w, S3, q3⟩
  | true =>
    refine test_last (wpAny_mono (hc A s3 σ3 ε _ r S3 (F.keep w.fut) q3) (fun v4 s4 zz => ?_) fun _ _ z => z)
    obtain ⟨σ4, w4, S4, z, iz, q4⟩ := zz
    refine wpAny_mono (op_ok G S4 r q4 iy iz) (fun z s5 zz => ?_) fun _ _ z => z
    obtain ⟨σ5, w5, S5, t, e, q5⟩ := zz
    subst e
    exact wpAny_truthy_bool ⟨σ5, (w.trans w4).trans w5, S5, q5⟩
end Mine
end
section
open PySem PySem.W PyProof.Rows PySem.SeqAt
set_option Elab.async false
set_option maxRecDepth 100000
namespace Mine
variable {κ : Kx} {Γ : Gx} {meths : List (PySem.Str × Addr)} {d : Nat} {env : Env} {vars : List (PySem.Str × Loc)}
end Mine
end
section
open PySem PySem.W PyProof.Rows PySem.SeqAt
set_option Elab.async false
set_option maxRecDepth 100000
namespace Mine
variable {κ : Kx} {Γ : Gx} {meths : List (PySem.Str × Addr)} {d : Nat} {env : Env} {vars : List (PySem.Str × Loc)}
theorem Fut.comp {W W' : List Addr} {σ σ' σ'' : Sto} {h h' h'' : Heap} (x : Fut W σ h σ' h') (y : Fut W' σ' h' σ'' h'') (hW' : ∀ b ∈ W', b ∈ W ∨ h.get? b = none) (hW : ∀ b ∈ W, ∃ o, h'.get? b = some o) : Fut W σ h σ'' h'' := by
  refine ⟨fun b o e n hw => ?_, fun a e => ?_⟩
  · have e' := x.keep b o e n hw
    refine y.keep b o e' ?_ fun hb => ?_
    · cases q : σ' b with
      | none => rfl
      | some z =>
        rcases x.dom b (by rw [q]; exact fun z => nomatch z) with z | z
        · exact absurd n z
        · rw [e] at z; cases z
    · rcases hW' b hb with z | z
      · exact hw z
      · rw [e] at z; cases z
  · rcases y.dom a e with z | z
    · exact x.dom a z
    · cases q : h.get? a with
      | none => exact .inr rfl
      | some o =>
        left
        intro n
        by_cases hw : a ∈ W
        · obtain ⟨o', e'⟩ := hW a hw
          rw [e'] at z; cases z
        · rw [x.keep a o q n hw] at z; cases z
theorem Fut.same {W : List Addr} {σ : Sto} {h h' : Heap} (k : ∀ b o, b ∉ W → h.get? b = some o → h'.get? b = some o) : Fut W σ h σ h' := ⟨fun b o e _ hw => k b o hw e, fun _ e => .inl e⟩
noncomputable def relabN (ns cn : List (PySem.Str × NameKind)) : List (PySem.Str × NameKind) := ns.map fun p => if (p.2 == .free && cn.lookup p.1 == some .cell) then (p.1, .cell) else p
noncomputable def isFree (ns : List (PySem.Str × NameKind)) (n : PySem.Str) : Bool := ns.any fun q => q.1 == n && q.2 == .free
noncomputable def compCE (ns : List (PySem.Str × NameKind)) (ce : CEnv) (x : PySem.Str) : CEnv := ⟨relabN ns ce.names, (ce.vs.map fun p => (p.1, if p.2 = .cell ∧ isFree ns p.1 = true then Kind.cell else Kind.hid)) ++ [(x, .loc)]⟩
theorem relab_eq {ce : CEnv} {scope : Scope} (eo : EnvOk env ce vars) : (relabel scope env).names = relabN scope.names ce.names := by
  unfold relabel relabN
  refine List.map_congr_left fun p _ => ?_
  obtain ⟨n, k⟩ := p
  show (if (k == NameKind.free && env.scope.kind == .function && env.kindOf n == some .cell) = true then _ else _) = _
  rw [eo.kind]
  unfold Env.kindOf
  rw [eo.names]
  simp
noncomputable def closOf (cells : List (PySem.Str × Addr)) : List (PySem.Str × NameKind) → List (PySem.Str × Addr) → List (PySem.Str × Addr)
  | [], acc => acc
  | p :: r, acc => if p.2 == .free then closOf cells r ((p.1, (cells.lookup p.1).getD 0) :: acc) else closOf cells r acc
theorem closOf_lookup {cells : List (PySem.Str × Addr)} {n : PySem.Str} {c : Addr} (hc : cells.lookup n = some c) : ∀ (l : List (PySem.Str × NameKind)) (acc : List (PySem.Str × Addr)), (acc.lookup n = some c ∨ isFree l n = true) → (closOf cells l acc).lookup n = some c
  | [], acc, h => by rcases h with h | h; exact h; cases h
  | p :: r, acc, h => by
    unfold closOf
    by_cases q : (p.2 == NameKind.free) = true
    · rw [if_pos q]
      refine closOf_lookup hc r _ ?_
      by_cases e : p.1 = n
      · left; rw [List.lookup_cons, e, beq_self_eq_true, hc]; rfl
      · have e' : (n == p.1) = false := beq_false_of_ne (Ne.symm e)
        rcases h with h | h
        · left; rw [List.lookup_cons, e']; exact h
        · right
          unfold isFree at h ⊢
          rw [List.any_cons, beq_false_of_ne e] at h
          simpa using h
    · rw [if_neg q]
      refine closOf_lookup hc r _ ?_
      rcases h with h | h
      · exact .inl h
      · right
        unfold isFree at h ⊢
        rw [List.any_cons] at h
        rw [Bool.not_eq_true] at q
        rw [q] at h
        simpa using h
theorem closure_ok {scope : Scope} (h : ∀ p ∈ scope.names, p.2 = .free → (env.cells.lookup p.1).isSome = true) : closureFor scope env = pure (closOf env.cells scope.names []) := by
  have key : ∀ (l : List (PySem.Str × NameKind)) (acc : List (PySem.Str × Addr)), (∀ p ∈ l, p.2 = .free → (env.cells.lookup p.1).isSome = true) →
      (forIn l acc fun (x : PySem.Str × NameKind) (cs : List (PySem.Str × Addr)) => (match x with
        | (name, kind) => if (kind == .free) = true then do let c ← cellOf env name; pure (ForInStep.yield ((name, c) :: cs)) else pure (ForInStep.yield cs) : Sem (ForInStep (List (PySem.Str × Addr))))) = pure (closOf env.cells l acc) := by
    intro l
    induction l with
    | nil => intro acc _; rfl
    | cons p r ih =>
      intro acc hp
      obtain ⟨n, k⟩ := p
      rw [List.forIn_cons]
      unfold closOf
      dsimp only
      by_cases q : (k == NameKind.free) = true
      · rw [if_pos q, if_pos q]
        obtain ⟨c, hc⟩ := Option.isSome_iff_exists.mp (hp (n, k) (.head _) (by simpa using q))
        have e : cellOf env n = pure c := by unfold cellOf; rw [hc]
        rw [e]
        dsimp only at hc
        rw [hc]
        exact ih _ fun p hp' => hp p (.tail _ hp')
      · rw [if_neg q, if_neg q]
        exact ih _ fun p hp' => hp p (.tail _ hp')
  have := key scope.names [] h
  unfold closureFor
  exact (congrArg (fun t => t >>= pure) this).trans (by rfl)
theorem EnvOk.comp {ce : CEnv} {scope : Scope} {x : PySem.Str} (eo : EnvOk env ce vars) (hsk : scope.kind = .function) {C : Addr} (fresh : ∀ (i : Nat) (n : PySem.Str) (l : Loc), vars[i]? = some (n, l) → l.adr ≠ C) :
    EnvOk (compEnvC scope (closOf env.cells scope.names []) C env) (compCE scope.names ce x) (vars ++ [(x, .loc C)]) := by
  have hl := eo.len
  have last : ∀ {i : Nat} {n : PySem.Str} {l : Loc}, (vars ++ [(x, Loc.loc C)])[i]? = some (n, l) → vars[i]? = some (n, l) ∨ (i = vars.length ∧ n = x ∧ l = .loc C) := by
    intro i n l e
    by_cases q : i < vars.length
    · rw [List.getElem?_append_left q] at e; exact .inl e
    · rw [List.getElem?_append_right (by omega)] at e
      have : i - vars.length = 0 := by
        cases z : i - vars.length with
        | zero => rfl
        | succ k => rw [z] at e; simp at e
      rw [this] at e
      simp at e
      exact .inr ⟨by omega, e.1.symm, e.2.symm⟩
  have lastc : ∀ {i : Nat} {n : PySem.Str} {k : Kind}, (compCE scope.names ce x).vs[i]? = some (n, k) → (∃ k', ce.vs[i]? = some (n, k') ∧ k = if k' = .cell ∧ isFree scope.names n = true then Kind.cell else Kind.hid) ∨ (i = ce.vs.length ∧ n = x ∧ k = .loc) := by
    intro i n k e
    unfold compCE at e
    dsimp only at e
    by_cases q : i < ce.vs.length
    · rw [List.getElem?_append_left (by rw [List.length_map]; exact q), List.getElem?_map] at e
      obtain ⟨p, hp, e⟩ := Option.map_eq_some_iff.mp e
      cases e
      exact .inl ⟨p.2, hp, rfl⟩
    · rw [List.getElem?_append_right (by rw [List.length_map]; omega), List.length_map] at e
      have : i - ce.vs.length = 0 := by
        cases z : i - ce.vs.length with
        | zero => rfl
        | succ k => rw [z] at e; simp at e
      rw [this] at e
      simp at e
      exact .inr ⟨by omega, e.1.symm, e.2.symm⟩
  refine ⟨hsk, eo.globals, eo.builtins, relab_eq eo, by simp [compCE, hl], fun i j n n' l l' e e' hij hn => ?_, fun i j n n' c l' e e' hij => ?_, fun i n e => ?_, fun i n e => ?_⟩
  · rcases last e with a | ⟨a1, a2, a3⟩ <;> rcases last e' with b | ⟨b1, b2, b3⟩
    · exact eo.nodup i j n n' l l' a b hij hn
    · subst b3; exact fresh _ _ _ a
    · subst a3; exact (fresh _ _ _ b).symm
    · omega
  · rcases last e with a | ⟨a1, a2, a3⟩ <;> rcases last e' with b | ⟨b1, b2, b3⟩
    · exact eo.apart i j n n' c l' a b hij
    · subst b3; exact fresh _ _ _ a
    · cases a3
    · cases a3
  · rcases lastc e with ⟨k', _, h⟩ | ⟨a1, a2, _⟩
    · split at h <;> cases h
    · subst a1 a2
      rw [← hl]
      show (vars ++ [(n, Loc.loc C)])[vars.length]? = _
      rw [List.getElem?_append_right (Nat.le_refl _), Nat.sub_self]; rfl
  · rcases lastc e with ⟨k', hk, h⟩ | ⟨_, _, h⟩
    · split at h
      · rename_i z
        obtain ⟨rfl, hf⟩ := z
        obtain ⟨c, hc, hlk⟩ := eo.cell i n hk
        exact ⟨c, by rw [List.getElem?_append_left (List.getElem?_eq_some_iff.mp hc).1]; exact hc, closOf_lookup hlk _ _ (.inr hf)⟩
      · cases h
    · cases h
theorem frame_comp {ε : Env0} {σ : Sto} {h h' : Heap} {x : PySem.Str} {C : Addr} {m : PySem.Str → Option Value} (F : FrameSt vars ε σ h) (k : ∀ b o, h.get? b = some o → h'.get? b = some o) (hC : σ C = none) (hn : h'.Ns C m) : FrameSt (vars ++ [(x, .loc C)]) (ε ++ [none]) σ h' := by
  have F' := F.keepW (W := []) (σ' := σ) (h' := h') (Fut.same fun b o _ e => k b o e) (fun _ _ _ _ h => nomatch h)
  have last : ∀ {i : Nat} {n : PySem.Str} {l : Loc}, (vars ++ [(x, Loc.loc C)])[i]? = some (n, l) → vars[i]? = some (n, l) ∧ (ε ++ [none])[i]? = ε[i]? ∨ (n = x ∧ l = .loc C ∧ (ε ++ [none])[i]? = some none) := by
    intro i n l e
    by_cases q : i < vars.length
    · rw [List.getElem?_append_left q] at e
      exact .inl ⟨e, by rw [List.getElem?_append_left (by rw [F.len]; exact q)]⟩
    · rw [List.getElem?_append_right (by omega)] at e
      have z : i - vars.length = 0 := by
        cases z : i - vars.length with
        | zero => rfl
        | succ k => rw [z] at e; simp at e
      rw [z] at e
      simp at e
      refine .inr ⟨e.1.symm, e.2.symm, ?_⟩
      rw [List.getElem?_append_right (by rw [F.len]; omega), F.len, z]; rfl
  refine ⟨by simp [F.len], fun i n l e => ?_, fun i n L e => ?_, fun i n c e => ?_⟩
  · rcases last e with ⟨a, _⟩ | ⟨_, a, _⟩
    · exact F'.off i n l a
    · subst a; exact hC
  · rcases last e with ⟨a, b⟩ | ⟨_, a, b⟩
    · rw [b]; exact F'.loc i n L a
    · cases a; exact ⟨m, hn, fun y hy => by rw [b] at hy; cases hy⟩
  · rcases last e with ⟨a, b⟩ | ⟨_, a, b⟩
    · rw [b]; exact F'.cell i n c a
    · cases a
end Mine
end
section
open PySem PySem.W PyProof.Rows PySem.SeqAt
set_option Elab.async false
set_option maxRecDepth 100000
namespace Mine
variable {κ : Kx} {Γ : Gx} {meths : List (PySem.Str × Addr)} {d : Nat} {env : Env} {vars : List (PySem.Str × Loc)}
noncomputable def STs (κ : Kx) (d : Nat) (env : Env) (vars : List (PySem.Str × Loc)) (ifs : List PySem.Expr) (w : (Bool → Sto → Prop) → Env0 → Sto → Prop) : Prop :=
  ∀ A s σ ε q, Room A d → St κ σ s → FrameSt vars ε σ s.heap → w q ε σ →
    Goes κ [] A (forIn ifs true fun c r => if r = true then do let ok ← isTrue c env (eval c env); pure (ForInStep.yield ok) else pure (ForInStep.yield r)) σ s q
theorem st_nil : STs κ d env vars [] (wpC Γ .tru) := fun _ _ _ _ _ _ S _ hq => wpAny_tests_nil (After.now S hq)
noncomputable def compOk (scope : Scope) (ce : CEnv) (x : PySem.Str) : Bool :=
  scope.kind == .function && scope.names.all (fun y => y.2 != .cell) && scope.names.all (fun y => y.2 != .local || scope.names.lookup y.1 == some .local) &&
    scope.names.all (fun p => p.2 != .free || (findVar p.1 .cell ce.vs 0).isSome) && (compCE scope.names ce x).var x == some ce.vs.length
structure CompOk (scope : Scope) (ce : CEnv) (x : PySem.Str) : Prop where
  kind : scope.kind = .function
  cell : ∀ y ∈ scope.names, y.2 ≠ .cell
  names : ∀ y ∈ scope.names, y.2 = .local → scope.names.lookup y.1 = some .local
  free : ∀ p ∈ scope.names, p.2 = .free → (findVar p.1 .cell ce.vs 0).isSome = true
  var : (compCE scope.names ce x).var x = some ce.vs.length
theorem compOk_of {scope : Scope} {ce : CEnv} {x : PySem.Str} (h : compOk scope ce x = true) : CompOk scope ce x := by
  unfold compOk at h
  simp only [Bool.and_eq_true, List.all_eq_true, bne_iff_ne, beq_iff_eq, Bool.or_eq_true] at h
  obtain ⟨⟨⟨⟨a, b⟩, c⟩, e⟩, f⟩ := h
  refine ⟨a, b, fun y hy hl => ?_, fun p hp hf => ?_, f⟩
  · rcases c y hy with z | z
    · exact absurd hl z
    · exact z
  · rcases e p hp with z | z
    · exact absurd hf z
    · exact z
theorem CompOk.closure {scope : Scope} {ce : CEnv} {x : PySem.Str} (c : CompOk scope ce x) (eo : EnvOk env ce vars) : closureFor scope env = pure (closOf env.cells scope.names []) :=
  closure_ok fun p hp hf => by
    obtain ⟨i, hi⟩ := Option.isSome_iff_exists.mp (c.free p hp hf)
    have z := (findVar_spec hi).2
    rw [Nat.sub_zero] at z
    obtain ⟨_, _, hlk⟩ := eo.cell i p.1 z
    rw [hlk]; rfl
theorem comp_core (G : GOk κ Γ meths d) {ce : CEnv} (eo : EnvOk env ce vars) {elt iter : PySem.Expr} {ifs : List PySem.Expr} {x : PySem.Str} {px pos : Pos} {scope : Scope} (co : CompOk scope ce x) (hb : ∀ (i : Nat) (n : PySem.Str) (l : Loc), vars[i]? = some (n, l) → κ.base.get? l.adr = none)
    {A : Around} {s : Shared} {σ : Sto} {ε : Env0} {I a : Addr} {src : AO} {xs : List V} {q : List V → Sto → Prop} {pe : PE} {pc : PC} {RR : Value → Addr → Result → Shared → Prop} (r : Room A d) (S : St κ σ s) (F : FrameSt vars ε σ s.heap)
    (hi : itemsOf src = some xs) (hz : xs.length ≤ 1000) (hcur : Cur s.heap I a src 0) (hI : σ I = none) (hIv : ∀ (i : Nat) (n : PySem.Str) (l : Loc), vars[i]? = some (n, l) → l.adr ≠ I) (hIb : κ.base.get? I = none)
    (hq : goComp Γ (wpE Γ pe) (wpC Γ pc) vars.length a src q xs [] (ε ++ [none]) σ)
    (helt : ∀ C, κ.base.get? C = none → EnvOk (compEnvC scope (closOf env.cells scope.names []) C env) (compCE scope.names ce x) (vars ++ [(x, .loc C)]) → SE κ d (compEnvC scope (closOf env.cells scope.names []) C env) (vars ++ [(x, .loc C)]) elt (wpE Γ pe))
    (htest : ∀ C, κ.base.get? C = none → EnvOk (compEnvC scope (closOf env.cells scope.names []) C env) (compCE scope.names ce x) (vars ++ [(x, .loc C)]) → STs κ d (compEnvC scope (closOf env.cells scope.names []) C env) (vars ++ [(x, .loc C)]) ifs (wpC Γ pc))
    (hRR : ∀ D C σ' s' us n ys m, s.heap.get? D = none → s.heap.get? C = none → D ≠ C → Way [I] σ s σ' s' → St κ σ' s' → σ' D = none → σ' C = none → s'.heap.get? D = some (listOf us.toArray n) → Vals us ys → ys.length ≤ 1000 → s'.heap.Ns C m →
      q ys σ' → RR (.ref D) C (.ok .next) s') :
    wpAny (model κ.prog κ.w) A (newList []) (fun acc s₃ => wpAny (model κ.prog κ.w) A (newFunctionEnv scope env.globals (closOf env.cells scope.names []) [] env.qual none .none (some env)) (fun cenv s₄ =>
      codeAny (model κ.prog κ.w) A (.compStart (.ListComp elt [⟨.Name x px, iter, ifs, 0⟩] scope pos) 0 (.ref I) acc { cenv with scope := relabel scope env }) (RR acc cenv.locals) s₄) noE s₃) noE s := by
  refine wpAny_newObj_type (wpAny_newFunctionEnv co.cell (by intro y hy; simp at hy) (fun h₁ hns₁ hsb₁ => ?_) co.kind)
  dsimp only at hns₁ hsb₁ ⊢
  generalize hH2 : s.heap.push { cls := .type "list", dict := none, data := .seq ([] : List Value).toArray } = H2 at hns₁ hsb₁ ⊢
  have hC : H2.objs.size = s.heap.objs.size + 1 := by rw [← hH2, Heap.size_push]
  generalize hDe : s.heap.objs.size = D at hC ⊢
  generalize hCe : H2.objs.size = C at hC hns₁ hsb₁ ⊢
  have hDC : D ≠ C := by rw [hC]; exact Nat.ne_of_lt (Nat.lt_succ_self _)
  have below : ∀ b, b < D → b ≠ C ∧ b ≠ D := fun b hb => ⟨by rw [hC]; exact Nat.ne_of_lt (Nat.lt_succ_of_lt hb), Nat.ne_of_lt hb⟩
  have lt_of : ∀ b o, s.heap.get? b = some o → b < D := fun b o e => hDe ▸ Heap.lt_size e
  have old : ∀ b o, s.heap.get? b = some o → h₁.get? b = some o := fun b o e => hsb₁.extBut b o (below b (lt_of b o e)).1 (Heap.get?_push_of_some _ (hH2 ▸ Heap.get?_push_of_some _ e))
  have hacc : h₁.get? D = some (listOf ([] : List Value).toArray 0) := hsb₁.extBut _ _ hDC (Heap.get?_push_of_some _ (hH2 ▸ hDe ▸ Heap.get?_push_size _ rfl))
  have fresh : ∀ a, D ≤ a → s.heap.get? a = none := fun a ha => by
    cases e : s.heap.get? a with
    | none => rfl
    | some o' => exact absurd (lt_of _ _ e) (Nat.not_lt.mpr ha)
  have hDn := fresh D (Nat.le_refl _)
  have hCn := fresh C (by rw [hC]; exact Nat.le_succ _)
  have hDσ := S.none_of G.ok hDn
  have hCσ := S.none_of G.ok hCn
  have hDb := S.base_none hDn
  have hCb := S.base_none hCn
  obtain ⟨oI, eI⟩ := hcur.there
  have hID : I ≠ D := (below I (lt_of _ _ eI)).2
  have hIC : I ≠ C := (below I (lt_of _ _ eI)).1
  have eo' := eo.comp (scope := scope) (x := x) co.kind (C := C) fun i n l e z => by
    obtain ⟨o, eo⟩ := F.there e
    rw [z, hCn] at eo; cases eo
  have hvC : ∀ (i : Nat) (n : PySem.Str) (l : Loc), (vars ++ [(x, Loc.loc C)])[i]? = some (n, l) → l.adr ≠ D ∧ l.adr ≠ I ∧ κ.base.get? l.adr = none := by
    intro i n l e
    by_cases z : i < vars.length
    · rw [List.getElem?_append_left z] at e
      obtain ⟨o, eo⟩ := F.there e
      exact ⟨fun w => (by rw [w, hDn] at eo; cases eo), hIv i n l e, hb i n l e⟩
    · rw [List.getElem?_append_right (by omega)] at e
      cases z : i - vars.length with
      | zero => rw [z] at e; simp at e; obtain ⟨_, rfl⟩ := e; exact ⟨hDC.symm, hIC.symm, hCb⟩
      | succ k => rw [z] at e; simp at e
  have loop : ∀ tk, codeAny (model κ.prog κ.w) A (.compLoop (.ListComp elt [⟨.Name x px, iter, ifs, 0⟩] scope pos) 0 (.ref I) (.ref D) (compEnvC scope (closOf env.cells scope.names []) C env)) (RR (.ref D) C) { s with heap := h₁, toks := tk } := by
    intro tk
    refine codeAny_compLoop_tests (fun k s' => ∃ σ' i us n acc ε', k = xs.length + 1 - i ∧ i ≤ xs.length ∧ Way [I] σ s σ' s' ∧ St κ σ' s' ∧ σ' I = none ∧ σ' D = none ∧ σ' C = none ∧ s'.heap.get? D = some (listOf us.toArray n) ∧ Vals us acc ∧ acc.length ≤ i ∧
      Cur s'.heap I a src i ∧ FrameSt (vars ++ [(x, .loc C)]) ε' σ' s'.heap ∧ goComp Γ (wpE Γ pe) (wpC Γ pc) vars.length a src q (xs.drop i) acc ε' σ') ?_ (xs.length + 1)
      ⟨σ, 0, [], 0, [], ε ++ [none], by omega, Nat.zero_le _, Way.of (Fut.same fun b o _ e => old b o e), S.aside G.ok fun b o e _ => old b o e, hI, hDσ, hCσ, hacc, .nil, Nat.zero_le _, hcur.keep fun o e => old _ _ e, frame_comp F old hCσ hns₁, hq⟩
    rintro k s' ⟨σ', i, us, n, acc, ε', rfl, hle, w1, S1, hI1, hD1, hC1, hd1, hv1, hal, cur1, F1, g1⟩
    have lookA : look Γ σ' a = some src := by
      cases e : xs.drop i with
      | nil => rw [e] at g1; exact g1.1
      | cons y ys => rw [e] at g1; exact g1.1
    obtain ⟨⟨hs1, tk1, es1⟩, u1⟩ := w1
    subst es1
    dsimp only at S1 hd1 cur1 F1 u1
    refine next_ok G r.handled S1 lookA hi hle (by omega) cur1 (fun he h' k => ?_) fun y v h' tk' hy iv cur2 k => ?_
    · have hnil : xs.drop i = [] := List.drop_eq_nil_of_le (List.getElem?_eq_none_iff.mp he)
      rw [hnil] at g1
      have y1 : Fut [I] σ' hs1 σ' h' := Fut.same fun b o hw e => k b o (fun z => hw (by simp [z])) e
      obtain ⟨m, hn, _⟩ := F1.keepW y1 (fun i n l e => by have := (hvC i n l e).2.1; simpa using this) |>.loc vars.length x C (by rw [List.getElem?_append_right (Nat.le_refl _), Nat.sub_self]; rfl)
      refine hRR D C σ' _ us n acc m hDn hCn hDC (Way.of (u1.comp y1 (fun b hb => .inl hb) fun b hb => ?_)) (S1.aside G.ok fun b o e hσ => k b o (fun z => ?_) e) hD1 hC1 (k _ _ hID.symm hd1) hv1 (by omega) hn g1.2
      · have : b = I := by simpa using hb
        subst this; exact cur1.there
      · subst z; rcases hσ with z | z; exact z hI1; exact z hIb
    · have hdrop : xs.drop i = y :: xs.drop (i + 1) := by
        have hlt : i < xs.length := (List.getElem?_eq_some_iff.mp hy).1
        rw [List.drop_eq_getElem_cons hlt]
        rw [List.getElem?_eq_getElem hlt] at hy
        cases hy; rfl
      rw [hdrop] at g1
      have hlt : i < xs.length := (List.getElem?_eq_some_iff.mp hy).1
      obtain ⟨_, g1⟩ := g1
      -- behind the step of the iterator
      have y2 : Fut [I] σ' hs1 σ' h' := Fut.same fun b o hw e => k b o (fun z => hw (by simp [z])) e
      have u2 : Fut [I] σ s.heap σ' h' := u1.comp y2 (fun b hb => .inl hb) fun b hb => by
        have : b = I := by simpa using hb
        subst this; exact cur1.there
      have S2 : St κ σ' { s with heap := h', toks := tk' } := S1.aside G.ok fun b o e hσ => k b o (fun z => by subst z; rcases hσ with z | z; exact z hI1; exact z hIb) e
      have F2 := F1.keepW y2 fun i n l e => by have := (hvC i n l e).2.1; simpa using this
      have hd2 := k _ _ hID.symm hd1
      -- the variable
      refine wpAny_assign_Name (store_var (s := { s with heap := h', toks := tk' }) (W := [C]) G.ok eo' S2 F2 (co.var) iv (fun i n l e => (hvC i n l e).2.2) (fun m l e => ?_) fun h3 tk3 S3 u3 F3 => ?_)
      · rw [← eo.len] at e
        rw [List.getElem?_append_right (Nat.le_refl _), Nat.sub_self] at e
        cases e; exact List.mem_singleton.mpr rfl
      have cur3 : Cur h3 I a src (i + 1) := cur2.keep fun o e => u3.keep _ _ e hI1 (by simpa using hIC)
      have hd3 := u3.keep _ _ hd2 hD1 (by simpa using hDC)
      have u3' : Fut [I] σ s.heap σ' h3 := u2.comp u3 (fun b hb => by
        have : b = C := by simpa using hb
        subst this; exact .inr hCn) fun b hb => by
        have : b = I := by simpa using hb
        subst this; exact cur2.there
      rw [← eo.len] at F3
      -- the tests
      refine wpAny_mono (htest C hCb eo' A _ σ' _ _ r S3 F3 g1) (fun ok s4 zz => ?_) fun _ _ z => z.elim
      obtain ⟨σ4, w4, S4, g4⟩ := zz
      have hI4 := w4.fut.still (cur3.there.choose_spec) hI1
      have hD4 := w4.fut.still hd3 hD1
      obtain ⟨oC, eC⟩ := F3.there (i := vars.length) (n := x) (l := .loc C) (by rw [List.getElem?_append_right (Nat.le_refl _), Nat.sub_self]; rfl)
      have hC4 := w4.fut.still eC hC1
      have cur4 : Cur s4.heap I a src (i + 1) := cur3.keep fun o e => w4.fut.keep _ _ e hI1 (fun h => nomatch h)
      have hd4 := w4.fut.keep _ _ hd3 hD1 (fun h => nomatch h)
      have F4 := F3.keep w4.fut
      obtain ⟨⟨h4, tk4, es4⟩, u4⟩ := w4
      subst es4
      dsimp only at S4 cur4 hd4 F4 u4
      have u4' : Fut [I] σ s.heap σ4 h4 := u3'.comp u4 (fun b hb => nomatch hb) fun b hb => by
        have : b = I := by simpa using hb
        subst this; exact cur3.there
      cases ok with
      | false =>
        rw [if_neg (by decide)] at g4 ⊢
        exact ⟨xs.length + 1 - (i + 1), by omega, σ4, i + 1, us, n, acc, _, rfl, hlt, Way.of u4', S4, hI4, hD4, hC4, hd4, hv1, by omega, cur4, F4, g4⟩
      | true =>
        rw [if_pos rfl] at g4 ⊢
        refine wpAny_mono (helt C hCb eo' A _ σ4 _ _ r S4 F4 g4) (fun ev s5 zz => ?_) fun _ _ z => z.elim
        obtain ⟨σ5, w5, S5, z, iz, g5⟩ := zz
        have hI5 := w5.fut.still (cur4.there.choose_spec) hI4
        have hD5 := w5.fut.still hd4 hD4
        obtain ⟨oC4, eC4⟩ := F4.there (i := vars.length) (n := x) (l := .loc C) (by rw [List.getElem?_append_right (Nat.le_refl _), Nat.sub_self]; rfl)
        have hC5 := w5.fut.still eC4 hC4
        have cur5 : Cur s5.heap I a src (i + 1) := cur4.keep fun o e => w5.fut.keep _ _ e hI4 (fun h => nomatch h)
        have hd5 := w5.fut.keep _ _ hd4 hD4 (fun h => nomatch h)
        have F5 := F4.keep w5.fut
        obtain ⟨⟨h5, tk5, es5⟩, u5⟩ := w5
        subst es5
        dsimp only at S5 cur5 hd5 F5 u5
        have u5' : Fut [I] σ s.heap σ5 h5 := u4'.comp u5 (fun b hb => nomatch hb) fun b hb => by
          have : b = I := by simpa using hb
          subst this; exact cur4.there
        refine wpAny_list_append_plain ⟨n, hd5⟩ (fun h6 hp6 hs6 => ?_) (by rw [List.size_toArray, hv1.length, sizeLine_eq]; omega)
        obtain ⟨n6, hp6⟩ := hp6
        rw [List.push_toArray] at hp6
        have y6 : Fut [D] σ5 h5 σ5 h6 := Fut.same fun b o hw e => hs6.extBut b o (by simpa using hw) e
        refine ⟨xs.length + 1 - (i + 1), by omega, σ5, i + 1, us ++ [ev], n6, acc ++ [z], _, rfl, hlt, Way.of (u5'.comp y6 (fun b hb => ?_) fun b hb => ?_), S5.aside G.ok fun b o e hσ => hs6.extBut b o (fun z => ?_) e, hI5, hD5, hC5, hp6, hv1.append (.cons iz .nil), by rw [List.length_append]; show _ + 1 ≤ _; omega,
          cur5.keep fun o e => hs6.extBut _ _ hID e, F5.keepW y6 fun i n l e => by have := (hvC i n l e).1; simpa using this, g5⟩
        · have : b = D := by simpa using hb
          subst this; exact .inr hDn
        · have : b = I := by simpa using hb
          subst this; exact cur5.there
        · subst z; rcases hσ with z | z; exact z hD5; exact z hDb
  refine codeAny_compStart_list (loop _) ?_
  have cur1 : Cur h₁ I a src 0 := hcur.keep fun o e => old _ _ e
  cases src with
  | list m ys => exact wpAny_pyIter_listiter cur1 (loop _)
  | tup ys => exact wpAny_pyIter_tupleiter cur1 (loop _)
  | dict es ep => exact wpAny_pyIter_keyiter cur1 (loop _)
  | range n => exact wpAny_pyIter_rangeiter cur1 (loop _)
  | _ => exact hcur.elim
end Mine
end
section
open PySem PySem.W PyProof.Rows PySem.SeqAt
set_option Elab.async false
set_option maxRecDepth 100000
namespace Mine
variable {κ : Kx} {Γ : Gx} {meths : List (PySem.Str × Addr)} {d : Nat} {env : Env} {vars : List (PySem.Str × Loc)}
noncomputable def adrs (vars : List (PySem.Str × Loc)) : List Addr := vars.map (·.2.adr)
theorem mem_adrs {i : Nat} {n : PySem.Str} {l : Loc} (e : vars[i]? = some (n, l)) : l.adr ∈ adrs vars := List.mem_map.mpr ⟨(n, l), List.mem_of_getElem? e, rfl⟩
theorem of_adrs {b : Addr} (h : b ∈ adrs vars) : ∃ (i : Nat) (n : PySem.Str) (l : Loc), vars[i]? = some (n, l) ∧ l.adr = b := by
  obtain ⟨⟨n, l⟩, hp, e⟩ := List.mem_map.mp h
  obtain ⟨i, hi⟩ := List.getElem?_of_mem hp
  exact ⟨i, n, l, hi, e⟩
theorem FrameSt.live {ε : Env0} {σ : Sto} {h : Heap} (F : FrameSt vars ε σ h) : ∀ b ∈ adrs vars, ∃ o, h.get? b = some o := fun b hb => by
  obtain ⟨i, n, l, e, rfl⟩ := of_adrs hb
  exact F.there e
structure Fo (κ : Kx) (env : Env) (ce : CEnv) (vars : List (PySem.Str × Loc)) : Prop where
  eo : EnvOk env ce vars
  hb : ∀ (i : Nat) (n : PySem.Str) (l : Loc), vars[i]? = some (n, l) → κ.base.get? l.adr = none
theorem Fo.comp {ce : CEnv} {scope : Scope} {x : PySem.Str} (fo : Fo κ env ce vars) {C : Addr} (hC : κ.base.get? C = none) (h : EnvOk (compEnvC scope (closOf env.cells scope.names []) C env) (compCE scope.names ce x) (vars ++ [(x, .loc C)])) :
    Fo κ (compEnvC scope (closOf env.cells scope.names []) C env) (compCE scope.names ce x) (vars ++ [(x, .loc C)]) := by
  refine ⟨h, fun i n l e => ?_⟩
  by_cases z : i < vars.length
  · rw [List.getElem?_append_left z] at e; exact fo.hb i n l e
  · rw [List.getElem?_append_right (by omega)] at e
    cases z : i - vars.length with
    | zero => rw [z] at e; simp at e; obtain ⟨_, rfl⟩ := e; exact hC
    | succ k => rw [z] at e; simp at e
theorem se_comp {ce : CEnv} (G : GOk κ Γ meths d) (fo : Fo κ env ce vars) {elt iter : PySem.Expr} {ifs : List PySem.Expr} {x : PySem.Str} {px pos : Pos} {scope : Scope} {pe pi : PE} {pc : PC} {t : Nat} (hc : compOk scope ce x = true) (ht : ce.vs.length = t) (hfold : ∀ v, foldedSetIterable iter env v = pure v)
    (hit : SE κ d env vars iter (wpE Γ pi))
    (helt : ∀ C, Fo κ (compEnvC scope (closOf env.cells scope.names []) C env) (compCE scope.names ce x) (vars ++ [(x, .loc C)]) → SE κ d (compEnvC scope (closOf env.cells scope.names []) C env) (vars ++ [(x, .loc C)]) elt (wpE Γ pe))
    (htest : ∀ C, Fo κ (compEnvC scope (closOf env.cells scope.names []) C env) (compCE scope.names ce x) (vars ++ [(x, .loc C)]) → STs κ d (compEnvC scope (closOf env.cells scope.names []) C env) (vars ++ [(x, .loc C)]) ifs (wpC Γ pc)) :
    SE κ d env vars (.ListComp elt [⟨.Name x px, iter, ifs, 0⟩] scope pos) (wpE Γ (.comp pe t pi pc)) := by
  rintro A s σ ε q r S F hq
  have co := compOk_of hc
  subst ht
  rw [← fo.eo.len] at hq
  unfold Goes
  rw [eval_ListComp]
  refine wpAny_comprehension_free (use := none) rfl hfold (co.closure fo.eo) co.kind co.names (wpAny_mono (hit A s σ ε _ r S F hq) (fun v s1 zz => ?_) fun _ _ z => z)
  obtain ⟨σ1, w1, S1, y, iy, a, src, xs, e1, e2, hi, hz, g⟩ := zz
  subst e1
  cases iy
  refine iter_ok G S1 e2 hi (by omega) fun ob cur => ?_
  have hIn := fresh_none s1.heap
  have hIσ := S1.none_of G.ok hIn
  have F1 := F.keep w1.fut
  have w0 : Way [] σ1 s1 σ1 { s1 with heap := s1.heap.push ob } := Way.push [] σ1 s1 ob
  refine comp_core G fo.eo co fo.hb (RR := fun acc C => compPost (model κ.prog κ.w) A noE none _ acc C) r (S1.pushed G.ok ob) (F1.keep w0.fut) hi hz cur hIσ (fun i n l e z => ?_) (S1.base_none hIn) g (fun C hC ho => helt C (fo.comp hC ho)) (fun C hC ho => htest C (fo.comp hC ho)) ?_
  · obtain ⟨o, eo⟩ := F1.there e
    rw [z, hIn] at eo; cases eo
  · intro D C σ' s' us n ys m hD hC hDC w2 S2 hDσ hCσ hd hv hl hn g2
    refine ⟨m, hn, fun h' hs' => ?_⟩
    have down : ∀ b, (s1.heap.push ob).get? b = none → s1.heap.get? b = none := fun b hb => by
      cases q : s1.heap.get? b with
      | none => rfl
      | some o => rw [Heap.get?_push_of_some _ q] at hb; cases hb
    have hD1 := down D hD
    have hC1 := down C hC
    obtain ⟨⟨h2, tk2, es⟩, u2⟩ := w2
    subst es
    dsimp only at S2 hd hn u2 hs'
    have u3 : Fut [] σ1 s1.heap σ' h2 := w0.fut.comp u2 (fun b hb => by
      have : b = s1.heap.objs.size := by simpa using hb
      subst this; exact .inr hIn) fun b hb => nomatch hb
    have y4 : Fut [C] σ' h2 σ' h' := Fut.same fun b o hw e => hs'.extBut b o (by simpa using hw) e
    have u4 : Fut [] σ1 s1.heap σ' h' := u3.comp y4 (fun b hb => by
      have : b = C := by simpa using hb
      subst this; exact .inr hC1) fun b hb => nomatch hb
    have S4 : St κ σ' { s1 with heap := h', toks := tk2 } := S2.aside G.ok fun b o e hσ => hs'.extBut b o (fun z => by subst z; rcases hσ with z | z; exact z hCσ; exact z (S1.base_none hC1)) e
    obtain ⟨a1, a2, a3⟩ := after_adopt G (tk := tk2) (ao := .list true ys) (h' := h') S1 hD1 (Way.of u4) S4 hDσ (fun b o _ e => e) ⟨us, n, hs'.extBut _ _ hDC hd, hv, fun _ => S1.base_none hD1, by omega⟩
    exact After.up w1 ⟨_, a2, a1, _, .ref D, g2 D a3⟩
inductive FlIs : Flow → Fl → Prop
  | next : FlIs .next .next
  | brk : FlIs .brk .brk
  | cont : FlIs .cont .cont
  | ret {v : Value} {x : V} : Is v x → FlIs (.ret v) (.ret x)
noncomputable def EndsE (κ : Kx) (vars : List (PySem.Str × Loc)) (σ : Sto) (s : Shared) (q : PostE) (s' : Shared) : Prop :=
  ∃ σ' ε', Way (adrs vars) σ s σ' s' ∧ St κ σ' s' ∧ FrameSt vars ε' σ' s'.heap ∧ q ε' σ'
noncomputable def Ends (κ : Kx) (vars : List (PySem.Str × Loc)) (σ : Sto) (s : Shared) (q : PostF) (f : Flow) (s' : Shared) : Prop := ∃ fl, FlIs f fl ∧ EndsE κ vars σ s (q fl) s'
theorem EndsE.up {ε : Env0} {σ σ1 : Sto} {s s1 s2 : Shared} {q : PostE} (w : Way (adrs vars) σ s σ1 s1) (F : FrameSt vars ε σ1 s1.heap) (h : EndsE κ vars σ1 s1 q s2) : EndsE κ vars σ s q s2 := by
  obtain ⟨σ2, ε2, w2, r⟩ := h
  exact ⟨σ2, ε2, w.transW w2 F.live, r⟩
theorem Ends.up {ε : Env0} {σ σ1 : Sto} {s s1 s2 : Shared} {q : PostF} {f : Flow} (w : Way (adrs vars) σ s σ1 s1) (F : FrameSt vars ε σ1 s1.heap) (h : Ends κ vars σ1 s1 q f s2) : Ends κ vars σ s q f s2 := by
  obtain ⟨fl, a, b⟩ := h
  exact ⟨fl, a, b.up w F⟩
noncomputable def TT (κ : Kx) (d : Nat) (env : Env) (vars : List (PySem.Str × Loc)) (t : PySem.Expr) (w : V → PostE → PostE) : Prop :=
  ∀ A s σ ε q v x, Room A d → St κ σ s → FrameSt vars ε σ s.heap → Is v x → w x q ε σ → wpAny (model κ.prog κ.w) A (assign t env v) (fun _ s' => EndsE κ vars σ s q s') noE s
noncomputable def TTs (κ : Kx) (Γ : Gx) (d : Nat) (env : Env) (vars : List (PySem.Str × Loc)) (ts : List PySem.Expr) (pts : PTs) : Prop :=
  (assignEach ts env).length = ptsLen pts ∧ (assignEach ts env).findIdx? (·.1) = none ∧
  ∀ A s σ ε q vs xs, Room A d → St κ σ s → FrameSt vars ε σ s.heap → Vals vs xs → wpTs Γ pts xs q ε σ → wpAny (model κ.prog κ.w) A (assignInOrder ((assignEach ts env).map (·.2)) vs) (fun _ s' => EndsE κ vars σ s q s') noE s
noncomputable def SS (κ : Kx) (d : Nat) (env : Env) (vars : List (PySem.Str × Loc)) (st : PySem.Stmt) (w : PostF → PostE) : Prop :=
  ∀ A s σ ε q, Room A d → St κ σ s → FrameSt vars ε σ s.heap → w q ε σ → wpAny (model κ.prog κ.w) A (exec st env) (fun f s' => Ends κ vars σ s q f s') noE s
noncomputable def SSs (κ : Kx) (d : Nat) (env : Env) (vars : List (PySem.Str × Loc)) (sts : List PySem.Stmt) (w : PostF → PostE) : Prop :=
  ∀ A s σ ε q, Room A d → St κ σ s → FrameSt vars ε σ s.heap → w q ε σ → wpAny (model κ.prog κ.w) A (execs sts env) (fun f s' => Ends κ vars σ s q f s') noE s
theorem store_go {ce : CEnv} (G : GOk κ Γ meths d) (fo : Fo κ env ce vars) {n : PySem.Str} {i : Nat} (hi : ce.var n = some i) {A : Around} {s : Shared} {σ : Sto} {ε : Env0} {q : PostE} {v : Value} {x : V} (S : St κ σ s) (F : FrameSt vars ε σ s.heap) (hv : Is v x) (hq : q (ε.set i (some x)) σ) :
    wpAny (model κ.prog κ.w) A (storeName env n v) (fun _ s' => EndsE κ vars σ s q s') noE s :=
  store_var (W := adrs vars) G.ok fo.eo S F hi hv fo.hb (fun m l e => mem_adrs e) fun h' tk S' u F' => ⟨σ, _, Way.of u, S', F', hq⟩
theorem tt_var {ce : CEnv} (G : GOk κ Γ meths d) (fo : Fo κ env ce vars) {n : PySem.Str} {pos : Pos} {i : Nat} (hi : ce.var n = some i) : TT κ d env vars (.Name n pos) (wpT Γ (.var i)) := by
  rintro A s σ ε q v x r S F hv ⟨_, hq⟩
  exact wpAny_assign_Name (store_go G fo hi S F hv hq)
theorem tt_sub (G : GOk κ Γ meths d) {o i : PySem.Expr} {pos : Pos} {po pi : PE} (ho : SE κ d env vars o (wpE Γ po)) (hi : SE κ d env vars i (wpE Γ pi)) : TT κ d env vars (.Subscript o i pos) (wpT Γ (.sub po pi)) := by
  rintro A s σ ε q v x r S F hv hq
  rw [arm_assign_Subscript]
  refine wpAny_bind (wpAny_holding (wpAny_mono (ho A s σ ε _ r S F hq) (fun ov s1 zz => ?_) fun _ _ z => z))
  obtain ⟨σ1, w1, S1, y, iy, q1⟩ := zz
  refine wpAny_bind (wpAny_holding (wpAny_mono (hi A s1 σ1 ε _ r S1 (F.keep w1.fut) q1) (fun iv s2 zz => ?_) fun _ _ z => z))
  obtain ⟨σ2, w2, S2, k, ik, a, j, es, ep, e1, e2, e3, hz, q2⟩ := zz
  subst e1 e2
  cases iy
  cases ik
  have w := w1.trans w2
  refine wpAny_bind (wpAny_standAt (wpAny_bind (wpAny_holding (set_item G S2 e3 hz hv fun h' tk ep' S3 u3 => ?_))))
  exact wpAny_release ⟨_, ε, (w.trans (Way.of u3)).weak, S3, (F.keep w.fut).keep u3, q2 ep'⟩
theorem tts_nil : TTs κ Γ d env vars [] .nil := by
  refine ⟨rfl, rfl, fun A s σ ε q vs xs r S F hv hq => ?_⟩
  obtain ⟨e, hq⟩ := hq
  subst e
  cases hv
  exact wpAny_pure ⟨σ, ε, Way.refl _ _ _, S, F, hq⟩
theorem tts_cons {t : PySem.Expr} {ts : List PySem.Expr} {pt : PT} {pts : PTs} (hst : assignEach (t :: ts) env = (false, assign t env) :: assignEach ts env) (h1 : TT κ d env vars t (wpT Γ pt)) (h2 : TTs κ Γ d env vars ts pts) : TTs κ Γ d env vars (t :: ts) (.cons pt pts) := by
  obtain ⟨l, f, h2⟩ := h2
  refine ⟨by rw [hst, List.length_cons, l]; rfl, by rw [hst, List.findIdx?_cons, f]; rfl, fun A s σ ε q vs xs r S F hv hq => ?_⟩
  obtain ⟨x, xr, e, hq⟩ := hq
  subst e
  cases hv with
  | cons iv hr =>
    rw [hst]
    show wpAny _ _ (holding _ (assign t env _) >>= fun _ => assignInOrder ((assignEach ts env).map (·.2)) _) _ _ _
    refine wpAny_bind (wpAny_holding (wpAny_mono (h1 A s σ ε _ _ x r S F iv hq) (fun _ s1 zz => ?_) fun _ _ z => z))
    obtain ⟨σ1, ε1, w1, S1, F1, q1⟩ := zz
    exact wpAny_mono (h2 A s1 σ1 ε1 q _ xr r S1 F1 hr q1) (fun _ s2 h => h.up w1 F1) fun _ _ z => z
theorem tt_tup (G : GOk κ Γ meths d) {ts : List PySem.Expr} {k : Nat} {pos : Pos} {pts : PTs} (h : TTs κ Γ d env vars ts pts) : TT κ d env vars (.Tuple ts k pos) (wpT Γ (.tup pts)) := by
  obtain ⟨hl, hf, h⟩ := h
  rintro A s σ ε q v x r S F hv ⟨a, xs, e1, e2, e3, hq⟩
  subst e1
  cases hv
  obtain ⟨vs, l1, hvs⟩ := look_sits G S e2
  refine wpAny_assign_Tuple r.handled l1 (by rw [hl, List.size_toArray, hvs.length, e3]) hf fun h' he => ?_
  have y : Fut [] σ s.heap σ h' := Fut.same fun b o _ e => he b o (Nat.ne_of_lt (Heap.lt_size e)) e
  have w : Way [] σ s σ { s with heap := h' } := Way.of' y
  have S1 : St κ σ { s with heap := h' } := S.aside G.ok (tk := s.toks) fun b o e _ => he b o (Nat.ne_of_lt (Heap.lt_size e)) e
  refine wpAny_mono (h A _ σ ε q vs xs r S1 (F.keep y) hvs hq) (fun _ s2 z => z.up w.weak (F.keep y)) fun _ _ z => z
theorem ss_fail {st : PySem.Stmt} : SS κ d env vars st (wpS Γ .fail) := fun _ _ _ _ _ _ _ _ h => h.elim
theorem sss_nil : SSs κ d env vars [] (wpSs Γ .nil) := fun _ s σ ε _ _ S F hq => wpAny_execs_nil ⟨.next, .next, σ, ε, Way.refl _ _ _, S, F, hq⟩
theorem sss_cons {st : PySem.Stmt} {sts : List PySem.Stmt} {p : PS} {ps : PSs} (h1 : SS κ d env vars st (wpS Γ p)) (h2 : SSs κ d env vars sts (wpSs Γ ps)) : SSs κ d env vars (st :: sts) (wpSs Γ (.cons p ps)) := by
  rintro A s σ ε q r S F hq
  refine wpAny_execs_cons (wpAny_mono (h1 A s σ ε _ r S F hq) (fun f s1 zz => ?_) fun _ _ z => z)
  obtain ⟨fl, hf, σ1, ε1, w1, S1, F1, q1⟩ := zz
  cases hf with
  | next => exact wpAny_mono (h2 A s1 σ1 ε1 q r S1 F1 q1) (fun f s2 z => z.up w1 F1) fun _ _ z => z
  | brk => exact ⟨.brk, .brk, σ1, ε1, w1, S1, F1, q1⟩
  | cont => exact ⟨.cont, .cont, σ1, ε1, w1, S1, F1, q1⟩
  | ret iv => exact ⟨_, .ret iv, σ1, ε1, w1, S1, F1, q1⟩
theorem ss_expr {ce : CEnv} (fo : Fo κ env ce vars) {e : PySem.Expr} {pos : Pos} {pe : PE} (hs : swapsWith e none pos.line env = pure false) (h : SE κ d env vars e (wpE Γ pe)) : SS κ d env vars (.Expr e pos) (wpS Γ (.expr pe)) := by
  rintro A s σ ε q r S F hq
  refine wpAny_Expr (wpAny_mono (h A s σ ε _ r S F hq) (fun v s1 zz => ?_) fun _ _ z => z) (by unfold interactive; rw [fo.eo.kind]; rfl) hs
  obtain ⟨σ1, w1, S1, x, ix, hn, q1⟩ := zz
  have : Ends κ vars σ s q .next s1 := ⟨.next, .next, σ1, ε, w1.weak, S1, F.keep w1.fut, q1⟩
  cases ix with
  | ref a => exact absurd rfl (hn a)
  | _ => exact this
theorem ss_ret {e : PySem.Expr} {pos : Pos} {pe : PE} (h : SE κ d env vars e (wpE Γ pe)) : SS κ d env vars (.Return (some e) pos) (wpS Γ (.ret pe)) := by
  rintro A s σ ε q r S F hq
  exact wpAny_Return_some (wpAny_mono (h A s σ ε _ r S F hq) (fun v s1 ⟨σ1, w1, S1, x, ix, q1⟩ => ⟨_, .ret ix, σ1, ε, w1.weak, S1, F.keep w1.fut, q1⟩) fun _ _ z => z)
theorem ss_if {c : PySem.Expr} {a b : List PySem.Stmt} {pos : Pos} {pc : PC} {pa pb : PSs} (hc : SC κ d env vars c (wpC Γ pc)) (ha : SSs κ d env vars a (wpSs Γ pa)) (hb : SSs κ d env vars b (wpSs Γ pb)) : SS κ d env vars (.If c a b pos) (wpS Γ (.ite pc pa pb)) := by
  rintro A s σ ε q r S F hq
  refine wpAny_If (wpAny_mono (hc A s σ ε _ r S F hq) (fun t s1 zz => ?_) fun _ _ z => z)
  obtain ⟨σ1, w1, S1, q1⟩ := zz
  have F1 := F.keep w1.fut
  cases t with
  | true => exact wpAny_mono (ha A s1 σ1 ε q r S1 F1 q1) (fun f s2 z => z.up w1.weak F1) fun _ _ z => z
  | false => exact wpAny_mono (hb A s1 σ1 ε q r S1 F1 q1) (fun f s2 z => z.up w1.weak F1) fun _ _ z => z
theorem ss_name {ce : CEnv} (G : GOk κ Γ meths d) (fo : Fo κ env ce vars) {n : PySem.Str} {p pos : Pos} {e : PySem.Expr} {pe : PE} {i : Nat} (hi : ce.var n = some i) (hs : swapsWith e (some (.Name n p)) pos.line env = pure false) (h : SE κ d env vars e (wpE Γ pe)) :
    SS κ d env vars (.Assign [.Name n p] e pos) (wpS Γ (.asg (.var i) pe)) := by
  rintro A s σ ε q r S F hq
  refine wpAny_Assign_Name (wpAny_mono (h A s σ ε _ r S F hq) (fun v s1 zz => ?_) fun _ _ z => z) hs
  obtain ⟨σ1, w1, S1, x, ix, _, q1⟩ := zz
  exact wpAny_mono (store_go G fo hi S1 (F.keep w1.fut) ix (q := q .next) q1) (fun _ s2 z => ⟨.next, .next, z.up w1.weak (F.keep w1.fut)⟩) fun _ _ z => z
theorem ss_attr (G : GOk κ Γ meths d) {o : PySem.Expr} {n : PySem.Str} {p pos : Pos} {e : PySem.Expr} {pe po : PE} {i : Nat} (hi : κ.names[i]? = some n) (hs : swapsWith e (some (.Attribute o n p)) pos.line env = pure false) (h : SE κ d env vars e (wpE Γ pe)) (ho : SE κ d env vars o (wpE Γ po)) :
    SS κ d env vars (.Assign [.Attribute o n p] e pos) (wpS Γ (.asg (.attr po i) pe)) := by
  rintro A s σ ε q r S F hq
  refine plainObj_wpAny_Assign_Attribute (wpAny_mono (h A s σ ε _ r S F hq) (fun v s1 zz => ?_) fun _ _ z => z) hs
  obtain ⟨σ1, w1, S1, x, ix, q1⟩ := zz
  have F1 := F.keep w1.fut
  refine wpAny_mono (ho A s1 σ1 ε _ r S1 F1 q1) (fun ov s2 zz => ?_) fun _ _ z => z
  obtain ⟨σ2, w2, S2, y, iy, a, fs, e1, e2, hl, q2⟩ := zz
  subst e1
  cases iy
  have F2 := F1.keep w2.fut
  exact put_ok G S2 e2 hi hl ix fun h' tk S3 u3 => ⟨.next, .next, _, ε, ((w1.trans w2).trans (Way.of u3)).weak, S3, F2.keep u3, q2⟩
theorem ss_sub (G : GOk κ Γ meths d) {o i : PySem.Expr} {p pos : Pos} {e : PySem.Expr} {pe po pi : PE} (hs : swapsWith e (some (.Subscript o i p)) pos.line env = pure false) (h : SE κ d env vars e (wpE Γ pe)) (ho : SE κ d env vars o (wpE Γ po)) (hi : SE κ d env vars i (wpE Γ pi)) :
    SS κ d env vars (.Assign [.Subscript o i p] e pos) (wpS Γ (.asg (.sub po pi) pe)) := by
  rintro A s σ ε q r S F hq
  refine wpAny_Assign_Subscript (wpAny_mono (h A s σ ε _ r S F hq) (fun v s1 zz => ?_) fun _ _ z => z) hs
  obtain ⟨σ1, w1, S1, x, ix, q1⟩ := zz
  refine wpAny_mono (ho A s1 σ1 ε _ r S1 (F.keep w1.fut) q1) (fun ov s2 zz => ?_) fun _ _ z => z
  obtain ⟨σ2, w2, S2, y, iy, q2⟩ := zz
  refine wpAny_mono (hi A s2 σ2 ε _ r S2 (F.keep (w1.trans w2).fut) q2) (fun iv s3 zz => ?_) fun _ _ z => z
  obtain ⟨σ3, w3, S3, k, ik, a, j, es, ep, e1, e2, e3, hz, q3⟩ := zz
  subst e1 e2
  cases iy
  cases ik
  have w := (w1.trans w2).trans w3
  exact set_item G S3 e3 hz ix fun h' tk ep' S4 u4 => ⟨.next, .next, _, ε, (w.trans (Way.of u4)).weak, S4, (F.keep w.fut).keep u4, q3 ep'⟩
theorem ss_tup {ts : List PySem.Expr} {k : Nat} {p pos : Pos} {e : PySem.Expr} {pe : PE} {pts : PTs} (hs : swapsWithSole [.Tuple ts k p] e pos.line env = pure false) (hw : swappedStores [.Tuple ts k p] e env = pure none) (h : SE κ d env vars e (wpE Γ pe)) (ht : TT κ d env vars (.Tuple ts k p) (wpT Γ (.tup pts))) :
    SS κ d env vars (.Assign [.Tuple ts k p] e pos) (wpS Γ (.asg (.tup pts) pe)) := by
  rintro A s σ ε q r S F hq
  refine Assign_Tuple (wpAny_mono (h A s σ ε _ r S F hq) (fun v s1 zz => ?_) fun _ _ z => z) hs hw
  obtain ⟨σ1, w1, S1, x, ix, q1⟩ := zz
  have F1 := F.keep w1.fut
  exact wpAny_mono (ht A s1 σ1 ε (q .next) v x r S1 F1 ix q1) (fun _ s2 z => ⟨.next, .next, z.up w1.weak F1⟩) fun _ _ z => z
theorem order_go {ce : CEnv} (G : GOk κ Γ meths d) (fo : Fo κ env ce vars) : ∀ (ns : List PySem.Str) (is : List Nat) (vs : List Value) (xs : List V) (A : Around) (s : Shared) (σ : Sto) (ε : Env0) (q : PostE), is = ns.filterMap ce.var → ns.all (fun n => (ce.var n).isSome) = true → vs.length = ns.length → Vals vs xs → St κ σ s → FrameSt vars ε σ s.heap →
    q (setAll is xs ε) σ → wpAny (model κ.prog κ.w) A (assignInOrder (ns.map fun n => bindName env n) vs) (fun _ s' => EndsE κ vars σ s q s') noE s
  | [], is, vs, xs, A, s, σ, ε, q, hi, _, hl, hv, S, F, hq => by
    subst hi
    cases vs with
    | nil => cases hv; exact wpAny_pure ⟨σ, ε, Way.refl _ _ _, S, F, hq⟩
    | cons => cases hl
  | n :: ns, is, vs, xs, A, s, σ, ε, q, hi, ha, hl, hv, S, F, hq => by
    have ha' := Bool.and_eq_true_iff.mp ha
    obtain ⟨i, hn⟩ := Option.isSome_iff_exists.mp ha'.1
    rw [List.filterMap_cons, hn] at hi
    subst hi
    cases hv with
    | nil => cases hl
    | cons iv hr =>
      show wpAny _ _ (holding _ (bindName env n _) >>= fun _ => assignInOrder (ns.map fun n => bindName env n) _) _ _ _
      refine wpAny_bind (wpAny_holding (wpAny_bindName (wpAny_mono (store_go G fo hn S F iv (q := fun ε' σ' => q (setAll (ns.filterMap ce.var) _ ε') σ') hq) (fun _ s1 zz => ?_) fun _ _ z => z)))
      obtain ⟨σ1, ε1, w1, S1, F1, q1⟩ := zz
      exact wpAny_mono (order_go G fo ns _ _ _ A s1 σ1 ε1 q rfl ha'.2 (by simpa using hl) hr S1 F1 q1) (fun _ s2 z => z.up w1 F1) fun _ _ z => z
theorem ss_swap {ce : CEnv} (G : GOk κ Γ meths d) (fo : Fo κ env ce vars) {ts : List PySem.Expr} {k : Nat} {p pos : Pos} {e : PySem.Expr} {pe : PE} {ns : List PySem.Str} {is : List Nat} (hs : swapsWithSole [.Tuple ts k p] e pos.line env = pure false) (hw : swappedStores [.Tuple ts k p] e env = pure (some ns))
    (hi : is = ns.filterMap ce.var) (ha : ns.all (fun n => (ce.var n).isSome) = true) (h : SE κ d env vars e (wpE Γ pe)) : SS κ d env vars (.Assign [.Tuple ts k p] e pos) (wpS Γ (.asg (.rev is) pe)) := by
  rintro A s σ ε q r S F hq
  have hlen : is.length = ns.length := by
    subst hi
    clear hw hq
    induction ns with
    | nil => rfl
    | cons n ns ih =>
      have ha' := Bool.and_eq_true_iff.mp ha
      obtain ⟨i, hn⟩ := Option.isSome_iff_exists.mp ha'.1
      rw [List.filterMap_cons, hn, List.length_cons, List.length_cons, ih ha'.2]
  refine Assign_Tuple_swapped (wpAny_mono (h A s σ ε _ r S F hq) (fun v s1 zz => ?_) fun _ _ z => z) hs hw
  obtain ⟨σ1, w1, S1, x, ix, a, xs, e1, e2, hl, q1⟩ := zz
  subst e1
  cases ix
  have F1 := F.keep w1.fut
  obtain ⟨vs, l1, hvs⟩ := look_sits G S1 e2
  have hsz : ns.length = vs.toArray.size := by rw [List.size_toArray, hvs.length, hl, hlen]
  rw [hsz]
  refine unpackItems_tuple r.handled l1 fun h' he => ?_
  have y : Fut [] σ1 s1.heap σ1 h' := Fut.same fun b o _ e => he b o (Nat.ne_of_lt (Heap.lt_size e)) e
  have S2 : St κ σ1 { s1 with heap := h' } := S1.aside G.ok (tk := s1.toks) fun b o e _ => he b o (Nat.ne_of_lt (Heap.lt_size e)) e
  have w2 : Way [] σ s σ1 { s1 with heap := h' } := w1.trans (Way.of' y)
  have hrev : ∀ {vs : List Value} {xs : List V}, Vals vs xs → Vals vs.reverse xs.reverse := by
    intro vs xs h
    induction h with
    | nil => exact .nil
    | cons h1 _ ih => rw [List.reverse_cons, List.reverse_cons]; exact ih.append (.cons h1 .nil)
  refine wpAny_mono (order_go G fo ns.reverse is.reverse vs.toArray.toList.reverse xs.reverse A _ σ1 ε (q .next) (by rw [hi, List.filterMap_reverse]) (by rw [List.all_reverse]; exact ha) (by simp [hvs.length, hl, hlen]) (hrev hvs) S2 (F1.keep y) q1) (fun _ s2 z => ⟨.next, .next, z.up w2.weak (F1.keep y)⟩) fun _ _ z => z
end Mine
end
section
open PySem PySem.W PyProof.Rows PySem.SeqAt
set_option Elab.async false
set_option maxRecDepth 100000
namespace Mine
variable {κ : Kx} {Γ : Gx} {meths : List (PySem.Str × Addr)} {d : Nat} {env : Env} {vars : List (PySem.Str × Loc)}
theorem letgo_ok {A : Around} {s : Shared} {E : Value → Shared → Prop} {Q : Unit → Shared → Prop} {t : PySem.Expr} {I a : Addr} {src : AO} {i : Nat} {v : Value} (c : Cur s.heap I a src i) (h : Q () s) : wpAny (model κ.prog κ.w) A (letOwnedTupleGo t (.ref I) v) Q E s := by
  have base : wpAny (model κ.prog κ.w) A (do
      let (.ref r, .ref a) := ((.ref I : Value), v) | return
      let o ← load r
      match o.cls, o.data with
      | .type n, .fields vs =>
        if ["enumerate", "zip", "dict_itemiterator", "dict_reverseitemiterator", "odict_iterator", "itertools.zip_longest", "itertools.pairwise"].contains n && vs[0]? == some (rawInt a) then
          rule "for.unpacks-the-owned-tuple"
          updateField r 0 .none
      | _, _ => pure ()) Q E s := by
    cases v with
    | ref b =>
      show wpAny _ _ (load I >>= _) _ _ _
      cases src with
      | list m ys =>
        obtain ⟨o, e, c1, c2⟩ := c
        refine wpAny_bind (wpAny_load e ?_)
        rw [c1, c2]
        exact wpAny_ite (by rw [if_neg (fun z => absurd (Bool.and_eq_true_iff.mp z).1 (by decide))]; exact wpAny_pure h)
      | tup ys =>
        obtain ⟨o, e, c1, c2⟩ := c
        refine wpAny_bind (wpAny_load e ?_)
        rw [c1, c2]
        exact wpAny_ite (by rw [if_neg (fun z => absurd (Bool.and_eq_true_iff.mp z).1 (by decide))]; exact wpAny_pure h)
      | dict es ep =>
        obtain ⟨o, e, c1, c2⟩ := c
        refine wpAny_bind (wpAny_load e ?_)
        rw [c1, c2]
        exact wpAny_ite (by rw [if_neg (fun z => absurd (Bool.and_eq_true_iff.mp z).1 (by decide))]; exact wpAny_pure h)
      | range n =>
        refine wpAny_bind (wpAny_load c ?_)
        exact wpAny_ite (by rw [if_neg (fun z => absurd (Bool.and_eq_true_iff.mp z).1 (by decide))]; exact wpAny_pure h)
      | _ => exact c.elim
    | _ => exact wpAny_pure h
  unfold letOwnedTupleGo
  cases t <;> first | exact wpAny_pure h | exact base
theorem ss_for {ce : CEnv} (G : GOk κ Γ meths d) (fo : Fo κ env ce vars) {t it : PySem.Expr} {b : List PySem.Stmt} {pos : Pos} {pt : PT} {pi : PE} {pb : PSs} (hfold : ∀ v, foldedSetIterable it env v = pure v) (hit : SE κ d env vars it (wpE Γ pi)) (ht : TT κ d env vars t (wpT Γ pt)) (hb : SSs κ d env vars b (wpSs Γ pb)) :
    SS κ d env vars (.For t it b [] pos) (wpS Γ (.for_ pt pi pb)) := by
  rintro A s σ ε q r S F hq
  refine wpAny_For (wpAny_mono (hit A s σ ε _ r S F hq) (fun v s1 zz => ?_) fun _ _ z => z) hfold
  obtain ⟨σ1, w1, S1, y, iy, a, src, xs, e1, e2, hi, hz, g⟩ := zz
  subst e1
  cases iy
  refine iter_ok G S1 e2 hi hz fun ob cur => ?_
  have hIn := fresh_none s1.heap
  have hIσ := S1.none_of G.ok hIn
  have F1 := F.keep w1.fut
  have w0 : Way [] σ1 s1 σ1 { s1 with heap := s1.heap.push ob } := Way.push [] σ1 s1 ob
  have hIW : s1.heap.objs.size ∉ adrs vars := fun h => by obtain ⟨o, eo⟩ := F1.live _ h; rw [hIn] at eo; cases eo
  generalize hIe : s1.heap.objs.size = I at *
  have hIb : κ.base.get? I = none := S1.base_none hIn
  refine codeAny_forLoop_any (fun k s' => ∃ σ' i ε', k = xs.length + 1 - i ∧ i ≤ xs.length ∧ Way (adrs vars) σ1 s1 σ' s' ∧ St κ σ' s' ∧ σ' I = none ∧ Cur s'.heap I a src i ∧ FrameSt vars ε' σ' s'.heap ∧ goFor Γ (wpT Γ pt) (wpSs Γ pb) a src q (xs.drop i) ε' σ') ?_ (xs.length + 1)
    ⟨σ1, 0, ε, by omega, Nat.zero_le _, w0.weak, S1.pushed G.ok ob, hIσ, cur, F1.keep w0.fut, g⟩
  rintro k s' ⟨σ', i, ε', rfl, hle, w2, S2, hI2, cur2, F2, g2⟩
  have lookA : look Γ σ' a = some src := by
    cases e : xs.drop i with
    | nil => rw [e] at g2; exact g2.1
    | cons y ys => rw [e] at g2; exact g2.1
  obtain ⟨⟨h2, tk2, es2⟩, u2⟩ := w2
  subst es2
  dsimp only at S2 cur2 F2 u2
  have liveW : ∀ b ∈ adrs vars, ∃ o, h2.get? b = some o := F2.live
  -- the iterator's own step
  have step : ∀ h' tk, (∀ b o, b ≠ I → h2.get? b = some o → h'.get? b = some o) → Fut (adrs vars) σ1 s1.heap σ' h' ∧ St κ σ' { s1 with heap := h', toks := tk } ∧ FrameSt vars ε' σ' h' := by
    intro h' tk k
    have y : Fut [I] σ' h2 σ' h' := Fut.same fun b o hw e => k b o (by simpa using hw) e
    refine ⟨u2.comp y (fun b hb => ?_) liveW, S2.aside G.ok fun b o e hσ => k b o (fun z => ?_) e, F2.keepW y fun i n l e => ?_⟩
    · have : b = I := by simpa using hb
      subst this; exact .inr hIn
    · subst z; rcases hσ with z | z; exact z hI2; exact z hIb
    · intro hm
      have : l.adr = I := by simpa using hm
      exact hIW (this ▸ mem_adrs e)
  refine next_ok G r.handled S2 lookA hi hle hz cur2 (fun he h' k => ?_) fun y v h' tk' hy iv cur3 k => ?_
  · have hnil : xs.drop i = [] := List.drop_eq_nil_of_le (List.getElem?_eq_none_iff.mp he)
    rw [hnil] at g2
    obtain ⟨u3, S3, F3⟩ := step h' tk2 k
    exact wpAny_execs_nil ⟨.next, .next, σ', ε', (w1.weak.transW (Way.of u3) F1.live), S3, F3, g2.2⟩
  · have hlt : i < xs.length := (List.getElem?_eq_some_iff.mp hy).1
    have hdrop : xs.drop i = y :: xs.drop (i + 1) := by
      rw [List.drop_eq_getElem_cons hlt]
      rw [List.getElem?_eq_getElem hlt] at hy
      cases hy; rfl
    rw [hdrop] at g2
    obtain ⟨_, g2⟩ := g2
    obtain ⟨u3, S3, F3⟩ := step h' tk' k
    refine letgo_ok (s := { s1 with heap := h', toks := tk' }) cur3 ?_
    refine wpAny_mono (ht A _ σ' ε' _ v y r S3 F3 iv g2) (fun _ s4 zz => ?_) fun _ _ z => z.elim
    obtain ⟨σ4, ε4, w4, S4, F4, g4⟩ := zz
    have hI4 := w4.fut.still cur3.there.choose_spec hI2
    have cur4 : Cur s4.heap I a src (i + 1) := cur3.keep fun o e => w4.fut.keep _ _ e hI2 hIW
    refine wpAny_mono (hb A s4 σ4 ε4 _ r S4 F4 g4) (fun f s5 zz => ?_) fun _ _ z => z.elim
    obtain ⟨fl, hf, σ5, ε5, w5, S5, F5, g5⟩ := zz
    have hI5 := w5.fut.still cur4.there.choose_spec hI4
    have cur5 : Cur s5.heap I a src (i + 1) := cur4.keep fun o e => w5.fut.keep _ _ e hI4 hIW
    have wall : Way (adrs vars) σ1 s1 σ5 s5 := ((Way.of u3).transW w4 F3.live).transW w5 F4.live
    cases hf with
    | next => exact ⟨xs.length + 1 - (i + 1), by omega, σ5, i + 1, ε5, rfl, hlt, wall, S5, hI5, cur5, F5, g5⟩
    | cont => exact ⟨xs.length + 1 - (i + 1), by omega, σ5, i + 1, ε5, rfl, hlt, wall, S5, hI5, cur5, F5, g5⟩
    | brk => exact ⟨.next, .next, σ5, ε5, w1.weak.transW wall F1.live, S5, F5, g5⟩
    | ret iv => exact ⟨_, .ret iv, σ5, ε5, w1.weak.transW wall F1.live, S5, F5, g5⟩
theorem ss_while {c : PySem.Expr} {b : List PySem.Stmt} {pos : Pos} {pc : PC} {pb : PSs} (hc : SC κ d env vars c (wpC Γ pc)) (hb : SSs κ d env vars b (wpSs Γ pb)) : SS κ d env vars (.While c b [] pos) (wpS Γ (.while_ pc pb)) := by
  rintro A s σ ε q r S F ⟨n, g⟩
  refine wpAny_While (codeAny_whileLoop (fun k s' => ∃ σ' ε', Way (adrs vars) σ s σ' s' ∧ St κ σ' s' ∧ FrameSt vars ε' σ' s'.heap ∧ goWhile (wpC Γ pc) (wpSs Γ pb) q k ε' σ') ?_ n ⟨σ, ε, Way.refl _ _ _, S, F, g⟩)
  rintro k s1 ⟨σ1, ε1, w1, S1, F1, g1⟩
  cases k with
  | zero => exact g1.elim
  | succ k =>
    refine wpAny_mono (hc A s1 σ1 ε1 _ r S1 F1 g1) (fun t s2 zz => ?_) fun _ _ z => z.elim
    obtain ⟨σ2, w2, S2, g2⟩ := zz
    have F2 := F1.keep w2.fut
    have w := w1.transW (w2.weak (W := adrs vars)) F1.live
    cases t with
    | false => exact wpAny_execs_nil ⟨.next, .next, σ2, ε1, w, S2, F2, g2⟩
    | true =>
      refine wpAny_mono (hb A s2 σ2 ε1 _ r S2 F2 g2) (fun f s3 zz => ?_) fun _ _ z => z.elim
      obtain ⟨fl, hf, σ3, ε3, w3, S3, F3, g3⟩ := zz
      have w' := w.transW w3 F2.live
      cases hf with
      | next => exact ⟨k, Nat.lt_succ_self _, σ3, ε3, w', S3, F3, g3⟩
      | cont => exact ⟨k, Nat.lt_succ_self _, σ3, ε3, w', S3, F3, g3⟩
      | brk => exact ⟨.next, .next, σ3, ε3, w', S3, F3, g3⟩
      | ret iv => exact ⟨_, .ret iv, σ3, ε3, w', S3, F3, g3⟩
theorem se_take {ce : CEnv} (G : GOk κ Γ meths d) (hd0 : 0 < d) (fo : Fo κ env ce vars) {n : PySem.Str} {p pos : Pos} {e : PySem.Expr} {pe : PE} {i : Nat} (hi : ce.var n = some i) (hd : (n == ("__debug__" : PySem.Str)) = false) (hst : notStar e = true) (he : SE κ d env vars e (wpE Γ pe)) :
    SE κ d env vars (.Call (.Name n p) [e] [] pos) (wpE Γ (.take (.var i) pe)) := by
  rintro A s σ ε q r S F ⟨x, hx, hq⟩
  refine Call_args (load_var fo.eo F hi hx hd fun f hf => ?_)
  have hst' : [e].all notStar = true := by simp [hst]
  have hs := ses_cons (star_cons (es := []) hst env) he (ses_nil (κ := κ) (Γ := Γ) (d := d) (env := env) (vars := vars))
  have hq' : wpEs Γ (.cons pe .nil) (fun xs σ' => ∃ y, xs = [y] ∧ takeW x y q σ') ε σ := by
    show wpE Γ pe (fun x' σ' => ∃ y, [x'] = [y] ∧ takeW x y q σ') ε σ
    exact cast (congrArg (fun z => wpE Γ pe z ε σ) (funext fun x' => funext fun σ' => propext ⟨fun h => ⟨x', rfl, h⟩, fun ⟨y, e, h⟩ => by cases e; exact h⟩)) hq
  refine callWith_of (P := fun h => ∃ a k F, f = .ref a ∧ κ.tk h a k F) (by rw [star_all hst']; rfl) (fun h ⟨a, k, F, e, t⟩ => by subst e; exact G.takeKeep h a k F t)
    (args_go (star_all hst' env pos) (wpAny_mono (hs A s σ ε _ pos r S F hq') (fun vs s1 ⟨σ1, w1, S1, xs, hv, _, y, e1, q1⟩ => ?_) fun _ _ z => z))
  subst e1
  cases hv with
  | cons iv hr =>
    cases hr
    cases hf with
    | ref a =>
      cases iv with
      | int lim t =>
        obtain ⟨k, e2, hk, h0, h1, hall⟩ := q1
        obtain ⟨F', ht, _⟩ := S1.sits _ _ e2
        exact ⟨⟨a, k, F', rfl, ht⟩, Goes.up w1 (G.take hd0 a k lim t A s1 σ1 q r S1 e2 hk h0 h1 hall)⟩
      | _ => exact q1.elim
    | _ => exact q1.elim
end Mine
end
section
open PySem PySem.W PyProof.Rows PySem.SeqAt
set_option Elab.async false
set_option maxRecDepth 100000
namespace Mine
variable {κ : Kx} {Γ : Gx} {meths : List (PySem.Str × Addr)} {d : Nat} {env : Env} {vars : List (PySem.Str × Loc)}
theorem bindL_miss {k : PySem.Str → Option NameKind} {n : PySem.Str} : ∀ {binds : List (PySem.Str × Value)} {m : PySem.Str → Option Value}, n ∉ binds.map (·.1) → bindL k binds m n = m n
  | [], _, _ => rfl
  | (a, v) :: r, m, h => by
    simp only [List.map_cons, List.mem_cons, not_or] at h
    unfold bindL
    rw [bindL_miss h.2]
    split
    · show (if n = a then some v else m n) = m n
      rw [if_neg h.1]
    · rfl
theorem bindL_get {k : PySem.Str → Option NameKind} {n : PySem.Str} {v : Value} (hk : k n = some .local) : ∀ {binds : List (PySem.Str × Value)} {m : PySem.Str → Option Value}, (binds.map (·.1)).Nodup → (n, v) ∈ binds → bindL k binds m n = some v
  | [], _, _, h => nomatch h
  | (a, u) :: r, m, hn, h => by
    have hn' := List.nodup_cons.mp hn
    unfold bindL
    rcases List.mem_cons.mp h with e | h
    · cases e
      rw [bindL_miss hn'.1, if_pos hk]
      show (if n = n then some v else m n) = _
      rw [if_pos rfl]
    · exact bindL_get hk hn'.2 h
theorem bindC_miss {k : PySem.Str → Option NameKind} {n : PySem.Str} : ∀ {binds : List (PySem.Str × Value)} {m : PySem.Str → Option Value}, n ∉ binds.map (·.1) → bindC k binds m n = m n
  | [], _, _ => rfl
  | (a, v) :: r, m, h => by
    simp only [List.map_cons, List.mem_cons, not_or] at h
    unfold bindC
    rw [bindC_miss h.2]
    split
    · rfl
    · show (if n = a then some v else m n) = m n
      rw [if_neg h.1]
theorem bindC_get {k : PySem.Str → Option NameKind} {n : PySem.Str} {v : Value} (hk : k n = some .cell) : ∀ {binds : List (PySem.Str × Value)} {m : PySem.Str → Option Value}, (binds.map (·.1)).Nodup → (n, v) ∈ binds → bindC k binds m n = some v
  | [], _, _, h => nomatch h
  | (a, u) :: r, m, hn, h => by
    have hn' := List.nodup_cons.mp hn
    unfold bindC
    rcases List.mem_cons.mp h with e | h
    · cases e
      rw [bindC_miss hn'.1, if_neg (by rw [hk]; exact fun z => nomatch z)]
      show (if n = n then some v else m n) = _
      rw [if_pos rfl]
    · exact bindC_get hk hn'.2 h
noncomputable def frameOk (names : List (PySem.Str × NameKind)) (vs : List (PySem.Str × Kind)) : Bool :=
  decide (vs.map (·.1)).Nodup && vs.all fun p => match p.2 with
    | .loc => names.lookup p.1 == some .local
    | .cell => names.lookup p.1 == some .cell
    | .hid => false
noncomputable def frameVars (L : Addr) (cells : List (PySem.Str × Addr)) (vs : List (PySem.Str × Kind)) : List (PySem.Str × Loc) :=
  vs.map fun p => (p.1, match p.2 with | .cell => .cell ((cells.lookup p.1).getD 0) | _ => .loc L)
theorem frame_get {L : Addr} {cells : List (PySem.Str × Addr)} {vs : List (PySem.Str × Kind)} {i : Nat} {n : PySem.Str} {l : Loc} (e : (frameVars L cells vs)[i]? = some (n, l)) :
    ∃ k, vs[i]? = some (n, k) ∧ l = match k with | .cell => Loc.cell ((cells.lookup n).getD 0) | _ => .loc L := by
  unfold frameVars at e
  rw [List.getElem?_map] at e
  obtain ⟨p, hp, e⟩ := Option.map_eq_some_iff.mp e
  cases e
  exact ⟨p.2, hp, rfl⟩
theorem idx_inj {vs : List (PySem.Str × Kind)} (h : (vs.map (·.1)).Nodup) {i j : Nat} {n : PySem.Str} {k k' : Kind} (e : vs[i]? = some (n, k)) (e' : vs[j]? = some (n, k')) : i = j := by
  have a : (vs.map (·.1))[i]? = some n := by rw [List.getElem?_map, e]; rfl
  have b : (vs.map (·.1))[j]? = some n := by rw [List.getElem?_map, e']; rfl
  exact (List.getElem?_inj (List.getElem?_eq_some_iff.mp a).1 h).mp (a.trans b.symm)
theorem enter (G : GOk κ Γ meths d) {σ : Sto} {s : Shared} {A : Around} {f : Addr} {o : Obj} {fd : FuncData} {body : List PySem.Stmt} {vs : List (PySem.Str × Kind)} {args : List Value} {binds : List (PySem.Str × Value)} {xs : List V} {pb : PSs} {q : Post}
    (r : Room A (d + 1)) (S : St κ σ s) (ho : κ.K.lookup f = some o) (hdata : o.data = .func fd) (hcd : codeIn κ.K fd.code fd.qualname = true) (hbody : fd.body = .stmts body) (hclo : fd.closure = []) (hgl : fd.globals = mainGlobals) (hbu : fd.builtins = builtinsNs)
    (hbind : BindsTo s fd ⟨args, []⟩ binds) (hnames : binds.map (·.1) = (vs.map (·.1)).take binds.length) (hv : Vals (binds.map (·.2)) xs) (hok : frameOk fd.scope.names vs = true)
    (hco : fd.scope.isCoroutine = false) (hgen : fd.scope.isGenerator = false) (hk : fd.scope.kind = .function)
    (h : ∀ L vars, Fo κ (callEnvC fd L f) ⟨fd.scope.names, vs⟩ vars → SSs κ d (callEnvC fd L f) vars body (wpSs Γ pb))
    (hw : wpSs Γ pb (fun fl _ σ' => match fl with | .ret v => q v σ' | .next => q .none σ' | _ => False) (xs.map some ++ List.replicate (vs.length - xs.length) none) σ) :
    codeAny (model κ.prog κ.w) A (.call (.ref f) ⟨args, []⟩) (fun r s' => ∃ v, r = .ok (.ret v) ∧ After κ [] σ s (fun v σ' => ∃ x, Is v x ∧ q x σ') v s') s := by
  have X := G.X S
  have T := G.ok.T.keeps (fun b o e => S.base b o e)
  unfold frameOk at hok
  obtain ⟨hnd, hkinds⟩ := Bool.and_eq_true_iff.mp hok
  have hnd := of_decide_eq_true hnd
  have kindAt : ∀ {i : Nat} {n : PySem.Str} {k : Kind}, vs[i]? = some (n, k) → (k = .loc ∧ fd.scope.names.lookup n = some .local) ∨ (k = .cell ∧ fd.scope.names.lookup n = some .cell) := by
    intro i n k e
    have := List.all_eq_true.mp hkinds _ (List.mem_of_getElem? e)
    cases k with
    | loc => exact .inl ⟨rfl, by simpa using this⟩
    | cell => exact .inr ⟨rfl, by simpa using this⟩
    | hid => cases this
  have hbn : (binds.map (·.1)).Nodup := by rw [hnames]; exact List.Sublist.nodup (List.take_sublist _ _) hnd
  have hlen : xs.length = binds.length := by rw [← hv.length, List.length_map]
  have hle : binds.length ≤ vs.length := by
    have := congrArg List.length hnames
    rw [List.length_map, List.length_take, List.length_map] at this
    omega
  have bindAt : ∀ {i : Nat} {n : PySem.Str} {k : Kind} {x : V}, vs[i]? = some (n, k) → xs[i]? = some x → ∃ v, (n, v) ∈ binds ∧ Is v x := by
    intro i n k x e ex
    obtain ⟨v, ev, iv⟩ := hv.get ex
    rw [List.getElem?_map] at ev
    obtain ⟨p, hp, rfl⟩ := Option.map_eq_some_iff.mp ev
    refine ⟨p.2, ?_, iv⟩
    have e1 : (binds.map (·.1))[i]? = some p.1 := by rw [List.getElem?_map, hp]; rfl
    rw [hnames, List.getElem?_take, if_pos (List.getElem?_eq_some_iff.mp hp).1, List.getElem?_map, e] at e1
    cases e1
    exact List.mem_of_getElem? hp
  have hkd : (binds.all fun y => fd.scope.names.lookup y.1 == some .local || fd.scope.names.lookup y.1 == some .cell) = true := by
    refine List.all_eq_true.mpr fun y hy => ?_
    have : y.1 ∈ (vs.map (·.1)).take binds.length := by rw [← hnames]; exact List.mem_map_of_mem hy
    obtain ⟨p, hp, e⟩ := List.mem_map.mp (List.mem_of_mem_take this)
    obtain ⟨i, hi⟩ := List.getElem?_of_mem hp
    rw [← e]
    rcases kindAt (i := i) (n := p.1) (k := p.2) hi with ⟨_, z⟩ | ⟨_, z⟩ <;> rw [z] <;> rfl
  refine codeAny_call_function r.limit (X _ _ ho) hdata hco hgen hbody (codeRec_of X hcd) (hbind _ _ _ _ ?_)
  rw [hclo]
  refine wpAny_newFunctionEnv_cells hk (kindsX hkd _) fun env he s₁ x => ?_
  subst he
  refine ⟨T.nolimit.keeps x.toInCall.keep, codeAny_func ?_⟩
  generalize hLe : s.heap.objs.size = L at x ⊢
  have henv : newEnv fd.scope L fd.globals (cellsFrom (L + 1) fd.scope.names []) (fd.qualname ++ ".<locals>.") (some f) fd.code none fd.builtins = callEnvC fd L f := rfl
  rw [henv] at x ⊢
  obtain ⟨⟨⟨h1, tk1, es1⟩, ns, keep, _⟩, cellx, apart, above⟩ := x
  subst es1
  dsimp only at ns keep cellx
  have hns : h1.Ns L (bindL (callEnvC fd L f).kindOf binds fun _ => none) := ns
  have kOf : ∀ n, (callEnvC fd L f).kindOf n = fd.scope.names.lookup n := fun n => rfl
  have freshA : ∀ b, L ≤ b → s.heap.get? b = none := fun b hb => by
    cases q : s.heap.get? b with
    | none => rfl
    | some o => exact absurd (Heap.lt_size q) (by rw [hLe]; exact Nat.not_lt.mpr hb)
  have cellAt : ∀ n, fd.scope.names.lookup n = some .cell → ∃ c, (cellsFrom (L + 1) fd.scope.names []).lookup n = some c ∧ L < c := fun n hn => by
    have := cellsFrom_some (n := L + 1) fd.scope.names [] (x := n) (.inl hn)
    obtain ⟨c, hc⟩ := Option.isSome_iff_exists.mp this
    exact ⟨c, hc, above n c (mem_of_lookup hc)⟩
  let vars := frameVars L (cellsFrom (L + 1) fd.scope.names []) vs
  have varAt : ∀ {i : Nat} {n : PySem.Str} {l : Loc}, vars[i]? = some (n, l) → ∃ k, vs[i]? = some (n, k) ∧ ((k = .loc ∧ fd.scope.names.lookup n = some .local ∧ l = .loc L) ∨ (k = .cell ∧ fd.scope.names.lookup n = some .cell ∧ ∃ c, (cellsFrom (L + 1) fd.scope.names []).lookup n = some c ∧ L < c ∧ l = .cell c)) := by
    intro i n l e
    obtain ⟨k, hk, rfl⟩ := frame_get e
    refine ⟨k, hk, ?_⟩
    rcases kindAt hk with ⟨rfl, hl⟩ | ⟨rfl, hl⟩
    · exact .inl ⟨rfl, hl, rfl⟩
    · obtain ⟨c, hc, hlt⟩ := cellAt n hl
      exact .inr ⟨rfl, hl, c, hc, hlt, by simp [hc]⟩
  have adrL : ∀ {i : Nat} {n : PySem.Str} {l : Loc}, vars[i]? = some (n, l) → L ≤ l.adr := by
    intro i n l e
    obtain ⟨k, _, h⟩ := varAt e
    rcases h with ⟨_, _, rfl⟩ | ⟨_, _, c, _, hlt, rfl⟩
    · exact Nat.le_refl _
    · exact Nat.le_of_lt hlt
  have eo : EnvOk (callEnvC fd L f) ⟨fd.scope.names, vs⟩ vars := by
    refine ⟨hk, hgl, hbu, rfl, by simp [vars, frameVars], fun i j n n' l l' e e' hij hn => ?_, fun i j n n' c l' e e' hij => ?_, fun i n e => ?_, fun i n e => ?_⟩
    · subst hn
      obtain ⟨k, hk, _⟩ := varAt e
      obtain ⟨k', hk', _⟩ := varAt e'
      exact absurd (idx_inj hnd hk hk') hij
    · obtain ⟨k, hk, h⟩ := varAt e
      obtain ⟨k', hk', h'⟩ := varAt e'
      rcases h with ⟨_, _, h⟩ | ⟨_, _, c1, hc1, hlt, h⟩
      · cases h
      · cases h
        rcases h' with ⟨_, _, rfl⟩ | ⟨_, _, c2, hc2, _, rfl⟩
        · exact Nat.ne_of_gt hlt
        · intro ec
          have ec : c = c2 := ec
          subst ec
          have := name_of_addr apart (mem_of_lookup hc1) (mem_of_lookup hc2)
          subst this
          exact hij (idx_inj hnd hk hk')
    · have e : vs[i]? = some (n, Kind.loc) := e
      show (frameVars L _ vs)[i]? = _
      unfold frameVars
      rw [List.getElem?_map, e]; rfl
    · have e : vs[i]? = some (n, Kind.cell) := e
      rcases kindAt e with ⟨h, _⟩ | ⟨_, hl⟩
      · cases h
      · obtain ⟨c, hc, _⟩ := cellAt n hl
        refine ⟨c, ?_, hc⟩
        show (frameVars L _ vs)[i]? = _
        unfold frameVars
        rw [List.getElem?_map, e]
        simp [hc]
  have fo : Fo κ (callEnvC fd L f) ⟨fd.scope.names, vs⟩ vars := ⟨eo, fun i n l e => S.base_none (freshA _ (adrL e))⟩
  have epsAt : ∀ {i : Nat} {x : V}, (xs.map some ++ List.replicate (vs.length - xs.length) none)[i]? = some (some x) → xs[i]? = some x := by
    intro i x e
    by_cases q : i < xs.length
    · rw [List.getElem?_append_left (by rw [List.length_map]; exact q), List.getElem?_map] at e
      obtain ⟨y, hy, e⟩ := Option.map_eq_some_iff.mp e
      cases e; exact hy
    · rw [List.getElem?_append_right (by rw [List.length_map]; omega)] at e
      have := List.mem_of_getElem? e
      rw [List.mem_replicate] at this
      cases this.2
  have F : FrameSt vars (xs.map some ++ List.replicate (vs.length - xs.length) none) σ h1 := by
    refine ⟨by simp [vars, frameVars]; omega, fun i n l e => S.none_of G.ok (freshA _ (adrL e)), fun i n L' e => ?_, fun i n c e => ?_⟩
    · obtain ⟨k, hk, h⟩ := varAt e
      rcases h with ⟨_, hl, h⟩ | ⟨_, _, c1, _, _, h⟩
      · cases h
        refine ⟨_, hns, fun y ey => ?_⟩
        obtain ⟨v, hm, iv⟩ := bindAt hk (epsAt ey)
        exact ⟨v, bindL_get (by rw [kOf]; exact hl) hbn hm, iv⟩
      · cases h
    · obtain ⟨k, hk, h⟩ := varAt e
      rcases h with ⟨_, hl, h⟩ | ⟨_, hl, c1, hc1, _, h⟩
      · cases h
      · cases h
        refine ⟨_, cellx n c hc1, fun y ey => ?_⟩
        obtain ⟨v, hm, iv⟩ := bindAt hk (epsAt ey)
        exact ⟨v, bindC_get (by rw [kOf]; exact hl) hbn hm, iv⟩
  have S1 : St κ σ { s with heap := h1, toks := tk1 } := S.aside G.ok fun b o e _ => keep b o e
  have u0 : Fut [] σ s.heap σ h1 := Fut.same fun b o _ e => keep b o e
  refine wpAny_mono (h L vars fo (A.deeper (callEnvC fd L f)) _ σ _ _ (r.deeper _) S1 F hw) (fun fl s' zz => ?_) fun _ _ z => z.elim
  obtain ⟨g, hg, σ', ε', w, S', F', hq⟩ := zz
  obtain ⟨⟨h2, tk2, es2⟩, u⟩ := w
  subst es2
  have wAll : Way [] σ s σ' { s with heap := h2, toks := tk2 } := Way.of (u0.comp u (fun b hb => by
    obtain ⟨i, n, l, e, rfl⟩ := of_adrs hb
    exact .inr (freshA _ (adrL e))) fun b hb => nomatch hb)
  cases hg with
  | next => exact ⟨.none, rfl, σ', wAll, S', .none, .none, hq⟩
  | brk => exact hq.elim
  | cont => exact hq.elim
  | ret iv => exact ⟨_, rfl, σ', wAll, S', _, iv, hq⟩
end Mine
end
section
open PySem PySem.W PyProof.Rows PySem.SeqAt
set_option Elab.async false
set_option maxRecDepth 100000
namespace Mine
inductive TE where
  | fn (body : PSs) (nv np : Nat) (dflt : List V)
  | cls (init : Addr)
  | taker
noncomputable def Sto.hide (σ : Sto) (F : List Addr) (l : Addr) : Sto := fun b => if b ∈ F then some (.priv l) else σ b
noncomputable def fillA (np : Nat) (dflt xs : List V) : Option (List V) := if xs.length ≤ np ∧ np ≤ xs.length + dflt.length then some (xs ++ dflt.drop (dflt.length - (np - xs.length))) else none
noncomputable def retW (q : Post) : PostF := fun fl _ σ' => match fl with
  | .ret v => q v σ'
  | .next => q .none σ'
  | _ => False
structure Px where
  stat : Addr → Option AO
  cls : Addr
  meth : Nat → Addr
  tab : Addr → Option TE
noncomputable def New0 (P : Px) (σ : Sto) (a : Addr) : Prop := σ a = none ∧ P.stat a = none
noncomputable def fnW (P : Px) : Nat → Addr → List V → Post → Sto → Prop
  | 0 => fun _ _ _ _ => False
  | n + 1 => fun f xs q σ => match P.tab f with
    | some (.fn body nv np dflt) => ∃ ys, fillA np dflt xs = some ys ∧ wpSs ⟨P.stat, P.cls, P.meth, fnW P n⟩ body (retW q) (ys.map some ++ List.replicate (nv - ys.length) none) σ
    | some (.cls init) => ∀ l dx, New0 P σ l → New0 P σ dx → l ≠ dx → fnW P n init (.ref l :: xs) (fun v σ' => v = .none ∧ q (.ref l) σ') ((σ.set dx (.priv l)).set l (.inst P.cls []))
    | some .taker => ∃ a ys, xs = [.ref a] ∧ P.stat a = some (.list false ys) ∧ ∀ l F, New0 P σ l → (∀ b ∈ F, New0 P σ b) → l ∉ F → q (.ref l) ((σ.hide F l).set l (.taker 0))
    | none => False
noncomputable def Px.gx (P : Px) (n : Nat) : Gx := ⟨P.stat, P.cls, P.meth, fnW P n⟩
variable {κ : Kx} {P : Px} {meths : List (PySem.Str × Addr)}
noncomputable def FnOk (κ : Kx) (P : Px) (meths : List (PySem.Str × Addr)) (f : Addr) : Prop :=
  ∀ n, GOk κ (P.gx n) meths n → ∀ xs q A s σ args, fnW P (n + 1) f xs q σ → Room A (n + 1) → St κ σ s → Vals args xs →
    codeAny (model κ.prog κ.w) A (.call (.ref f) ⟨args, []⟩) (fun r s' => ∃ v, r = .ok (.ret v) ∧ After κ [] σ s (fun v σ' => ∃ x, Is v x ∧ q x σ') v s') s
structure Ground0 (κ : Kx) (P : Px) (meths : List (PySem.Str × Addr)) : Prop where
  ok : κ.Ok
  stat : ∀ a o, P.stat a = some o → (∃ ob, κ.base.get? a = some ob) ∧ ∀ σ h, κ.base.StaysIn h → Sits κ σ h a o
  still : ∀ a o, P.stat a = some o → (∃ xs, o = .list false xs) ∨ ∃ xs, o = .tup xs
  cls : clsOk κ.K P.cls κ.names meths = true
  meth : ∀ i p, meths[i]? = some p → P.meth i = p.2
  take : ∀ (a : Addr) (k : Nat) (lim : Int) (t : Tok) (n : Nat) (A : Around) (s : Shared) (σ : Sto) (q : Post), Room A (n + 1) → St κ σ s → σ a = some (.taker k) → k < 400 → 0 < lim → lim ≤ 1000 → (∀ r : Int, 0 ≤ r → r < lim → q (V.int r) (σ.set a (.taker (k + 1)))) →
    Goes κ [] A (call (.ref a) [.int lim t]) σ s (fun v σ' => ∃ x, Is v x ∧ q x σ')
  takeKeep : ∀ h a k F, κ.tk h a k F → ∃ kp, (kp = Keeper.frame ∨ kp = Keeper.machine ∨ kp = Keeper.boundFrame) ∧ Looks (model κ.prog κ.w) h (keeperOf (.ref a)) kp
theorem gok_all (G : Ground0 κ P meths) (h : ∀ f te, P.tab f = some te → FnOk κ P meths f) : ∀ n, GOk κ (P.gx n) meths n
  | 0 => ⟨G.ok, G.stat, G.still, G.cls, G.meth, fun _ _ _ _ _ _ _ h => h.elim, fun h => absurd h (Nat.lt_irrefl _), G.takeKeep⟩
  | n + 1 => by
    refine ⟨G.ok, G.stat, G.still, G.cls, G.meth, fun f xs q σ A s args hf r S hv => ?_, fun _ a k lim t A s σ q r => G.take a k lim t n A s σ q r, G.takeKeep⟩
    have hf : fnW P (n + 1) f xs q σ := hf
    cases e : P.tab f with
    | none => unfold fnW at hf; rw [e] at hf; exact hf.elim
    | some te => exact h f te e n (gok_all G h n) xs q A s σ args hf r S hv
theorem fn_enter {f : Addr} {o : Obj} {fd : FuncData} {body : List PySem.Stmt} {vs : List (PySem.Str × Kind)} {pb : PSs} {np : Nat} {dflt : List V} {dvals : List Value} (ht : P.tab f = some (.fn pb vs.length np dflt))
    (ho : κ.K.lookup f = some o) (hdata : o.data = .func fd) (hcd : codeIn κ.K fd.code fd.qualname = true) (hbody : fd.body = .stmts body) (hclo : fd.closure = []) (hgl : fd.globals = mainGlobals) (hbu : fd.builtins = builtinsNs)
    (hd : Vals dvals dflt) (hnp : np ≤ vs.length)
    (hbind : ∀ s args, κ.K.In s.heap → args.length ≤ np → np ≤ args.length + dvals.length → BindsTo s fd ⟨args, []⟩ (((vs.map (·.1)).take np).zip (args ++ dvals.drop (dvals.length - (np - args.length)))))
    (hok : frameOk fd.scope.names vs = true) (hco : fd.scope.isCoroutine = false) (hgen : fd.scope.isGenerator = false) (hk : fd.scope.kind = .function)
    (h : ∀ n, GOk κ (P.gx n) meths n → ∀ L vars, Fo κ (callEnvC fd L f) ⟨fd.scope.names, vs⟩ vars → SSs κ n (callEnvC fd L f) vars body (wpSs (P.gx n) pb)) : FnOk κ P meths f := by
  intro n G xs q A s σ args hf r S hv
  unfold fnW at hf
  rw [ht] at hf
  obtain ⟨ys, hy, hw⟩ := hf
  unfold fillA at hy
  split at hy
  · rename_i hl
    cases hy
    have hla := hv.length
    have hld := hd.length
    have hdrop : ∀ {vs : List Value} {xs : List V} (_ : Vals vs xs) (n : Nat), Vals (vs.drop n) (xs.drop n) := fun h n => h.drop n
    have hall : Vals (args ++ dvals.drop (dvals.length - (np - args.length))) (xs ++ dflt.drop (dflt.length - (np - xs.length))) := hv.append (by rw [hla, hld]; exact hd.drop _)
    have hlen : (args ++ dvals.drop (dvals.length - (np - args.length))).length = np := by
      rw [List.length_append, List.length_drop]; omega
    have hlen2 : ((vs.map (·.1)).take np).length = np := by rw [List.length_take, List.length_map]; omega
    have hz1 : ((((vs.map (·.1)).take np).zip (args ++ dvals.drop (dvals.length - (np - args.length)))).map (·.1)) = (vs.map (·.1)).take np := List.map_fst_zip (by rw [hlen, hlen2]; exact Nat.le_refl _)
    have hz2 : ((((vs.map (·.1)).take np).zip (args ++ dvals.drop (dvals.length - (np - args.length)))).map (·.2)) = args ++ dvals.drop (dvals.length - (np - args.length)) := List.map_snd_zip (by rw [hlen, hlen2]; exact Nat.le_refl _)
    refine enter G r S ho hdata hcd hbody hclo hgl hbu (hbind s args (G.X S) (by omega) (by omega)) (by rw [hz1, List.length_zip, hlen, hlen2, Nat.min_self]) (by rw [hz2]; exact hall) hok hco hgen hk (h n G) ?_
    exact hw
  · cases hy
theorem cls_enter {C init : Addr} (ht : P.tab C = some (.cls init)) (hC : P.cls = C) (hm : makesIn κ.K C = true) (hi : findIn κ.K (.ref C) "__init__" = some (some (.ref init))) (hf : typeIn κ.K (.ref init) = some (.type "function")) : FnOk κ P meths C := by
  intro n G xs q A s σ args hw r S hv
  unfold fnW at hw
  rw [ht] at hw
  have X := G.X S
  obtain ⟨h0, g, d, t, os⟩ := s
  have hdx := fresh_none h0
  have hx : h0.get? (h0.objs.size + 1) = none := by
    cases q : h0.get? (h0.objs.size + 1) with
    | none => rfl
    | some o => exact absurd (Nat.lt_trans (Nat.lt_succ_self _) (Heap.lt_size q)) (Nat.lt_irrefl _)
  have ne : h0.objs.size + 1 ≠ h0.objs.size := Nat.succ_ne_self _
  have n1 := new_of G S hx
  have n2 := new_of G S hdx
  have hw1 := hw (h0.objs.size + 1) h0.objs.size n1 n2 ne
  refine make_core (makes_of X hm) (looks_findIn X hi) (fun self => bind_fn X self hf) (.inl rfl) ?_
  have k1 : ∀ b o, h0.get? b = some o → ((h0.push emptyDict).push (instObj C h0.objs.size)).get? b = some o := fun b o e => Heap.get?_push_of_some _ (Heap.get?_push_of_some _ e)
  have e1 : ((h0.push emptyDict).push (instObj C h0.objs.size)).get? h0.objs.size = some emptyDict := Heap.get?_push_of_some _ (Heap.get?_push_size _ rfl)
  have e2 : ((h0.push emptyDict).push (instObj C h0.objs.size)).get? (h0.objs.size + 1) = some (instObj C h0.objs.size) := by
    have := Heap.get?_push_size (h0.push emptyDict) (o := instObj C h0.objs.size) rfl
    rw [Heap.size_push] at this
    exact this
  have S0 : St κ (σ.set h0.objs.size (.priv (h0.objs.size + 1))) ⟨(h0.push emptyDict).push (instObj C h0.objs.size), g, d, t, os⟩ := by
    refine (S.aside G.ok (h' := (h0.push emptyDict).push (instObj C h0.objs.size)) (tk := t) fun b o e _ => k1 b o e).adopt G.ok n2.1 ⟨_, e1⟩
  have hs : (σ.set h0.objs.size (.priv (h0.objs.size + 1))) (h0.objs.size + 1) = none := by rw [Sto.set_ne _ _ ne]; exact n1.1
  have S1 := S0.adopt G.ok hs (ao := .inst C []) ⟨h0.objs.size, [], 0, e2, e1, .nil, by rw [Sto.set_ne _ _ ne.symm, Sto.set_self], S.base_none hdx⟩
  have u0 : Fut [] σ h0 ((σ.set h0.objs.size (.priv (h0.objs.size + 1))).set (h0.objs.size + 1) (.inst C [])) ((h0.push emptyDict).push (instObj C h0.objs.size)) := by
    refine ⟨fun b o e _ _ => k1 b o e, fun a ha => ?_⟩
    by_cases z : a = h0.objs.size + 1
    · subst z; exact .inr hx
    · rw [Sto.set_ne _ _ z] at ha
      by_cases z' : a = h0.objs.size
      · subst z'; exact .inr hdx
      · rw [Sto.set_ne _ _ z'] at ha; exact .inl ha
  have r' : Room (A.under (.builtin "type.__call__" ⟨.ref C :: args, []⟩)) n := by
    have r1 := r.depth
    have r2 := r.units
    have w1 : (Code.builtin "type.__call__" ⟨.ref C :: args, []⟩).weight ≤ 1 := Nat.le_of_eq rfl
    have w2 : (Code.builtin "type.__call__" ⟨.ref C :: args, []⟩).cUnits ≤ 10 := show (_ : Nat) ≤ 10 from Nat.le_trans (Nat.le_of_eq (show _ = 1 from rfl)) (by decide)
    exact ⟨r.handled, by show A.depth + (Code.builtin "type.__call__" ⟨.ref C :: args, []⟩).weight + n ≤ 400; omega, by show A.units + (Code.builtin "type.__call__" ⟨.ref C :: args, []⟩).cUnits + 10 * n ≤ 1000; omega⟩
  rw [hC] at hw1
  refine codeAny_mono (G.fn init _ _ _ _ _ (.ref (h0.objs.size + 1) :: args) hw1 r' S1 (.cons (.ref _) hv)) fun res s' zz => ?_
  obtain ⟨v, e, σ', w, S', x, ix, hx, hq⟩ := zz
  subst e hx
  cases ix
  refine ⟨rfl, _, rfl, σ', ?_, S', _, .ref _, hq⟩
  obtain ⟨⟨h2, tk2, es⟩, u⟩ := w
  subst es
  exact Way.of (u0.trans0 u)
end Mine
end
section
open PySem PySem.W PyProof.Rows PySem.SeqAt
set_option Elab.async false
set_option maxRecDepth 100000
namespace Mine
variable {κ : Kx} {Γ : Gx} {P : Px} {meths : List (PySem.Str × Addr)} {d : Nat} {env : Env} {vars : List (PySem.Str × Loc)}
noncomputable def aOp : Operator → Option Ar
  | .Mult => some .mul | .FloorDiv => some .fdiv | .Mod => some .mod | .Pow => some .pow | _ => none
theorem ar_ok {σ : Sto} {s : Shared} (S : St κ σ s) {A : Around} {op : Operator} {ar : Ar} (ho : aOp op = some ar) {x y : V} {v u : Value} {q : Post} (h : arW ar x y q σ) (hv : Is v x) (hu : Is u y) :
    Goes κ [] A (binaryOp op v u) σ s (fun v σ' => ∃ x, Is v x ∧ q x σ') := by
  obtain ⟨i, j, rfl, rfl, h⟩ := h
  cases hv with
  | int _ t =>
    cases hu with
    | int _ u =>
      cases op <;> cases ho
      · obtain ⟨h0, h1, h⟩ := h
        refine P.mul_int (After.tok S ⟨_, .int _ _, h⟩) (.of_left ?_)
        unfold Builtin.Int.intBits
        split
        · omega
        · rename_i hn
          have : i.natAbs < 2 ^ 63 := by omega
          have := (Nat.log2_lt (by intro e; apply hn; simp; omega)).mpr this
          omega
      · exact PyProof.Rows.mod_int h.1 (After.tok S ⟨_, .int _ _, h.2⟩)
      · obtain ⟨rfl, h0, h1, h⟩ := h
        by_cases hj : j = 0
        · subst hj
          exact AutoIntOps.pow_0 (by omega) rfl (After.tok S ⟨_, .int _ _, h⟩)
        · refine AutoIntOps.pow_4 (by omega) (by simpa using hj) (by decide) (by decide) ?_ (After.tok S ⟨_, .int _ _, h⟩)
          have hb : ((Builtin.Int.intBits 720720 : Nat) : Int) = 20 := by decide +kernel
          rw [hb]
          unfold Builtin.Int.intTooBig bitsLine
          simp
          omega
      · exact PyProof.Rows.floordiv_int h.1 (After.tok S ⟨_, .int _ _, h.2.2⟩) (.inl h.2.1)
theorem se_ar {a b : PySem.Expr} {op : Operator} {ar : Ar} {pos : Pos} {pa pb : PE} (ho : aOp op = some ar) (ha : SE κ d env vars a (wpE Γ pa)) (hb : SE κ d env vars b (wpE Γ pb)) : SE κ d env vars (.BinOp a op b pos) (wpE Γ (.ar ar pa pb)) := by
  rintro A s σ ε q r S F hq
  refine wpAny_BinOp (wpAny_mono (ha A s σ ε _ r S F hq) (fun v s1 zz => ?_) fun _ _ z => z)
  obtain ⟨σ1, w1, S1, x, ix, q1⟩ := zz
  refine wpAny_mono (hb A s1 σ1 ε _ r S1 (F.keep w1.fut) q1) (fun u s2 zz => ?_) fun _ _ z => z
  obtain ⟨σ2, w2, S2, y, iy, q2⟩ := zz
  exact Goes.up (w1.trans w2) (ar_ok S2 ho q2 ix iy)
noncomputable def cloVars (L : Addr) (cells : List (PySem.Str × Addr)) (vs : List (PySem.Str × Kind)) : List (PySem.Str × Loc) := frameVars L cells vs
noncomputable def cloOk (names : List (PySem.Str × NameKind)) (vs : List (PySem.Str × Kind)) : Bool :=
  decide (vs.map (·.1)).Nodup && vs.all (fun p => match p.2 with
    | .loc => names.lookup p.1 == some .local
    | .cell => names.lookup p.1 == some .free
    | .hid => false) && names.all fun p => p.2 != .cell
theorem small_div {i n : Int} (h : n.natAbs < 2 ^ 9000) : Builtin.divisionGoesByPylong i n = false := by
  unfold Builtin.divisionGoesByPylong
  dsimp only
  have : (if n == 0 then 0 else n.natAbs.log2 / 30 + 1) ≤ 300 := by
    split
    · omega
    · rename_i hn
      have h0 : n.natAbs ≠ 0 := by intro e; apply hn; simp; omega
      have := (Nat.log2_lt h0).mpr h
      omega
  rw [decide_eq_false (by omega)]
  rfl
theorem pow_small {n : Nat} (h : n ≤ 400) : ((720720 : Int) ^ n).natAbs < 2 ^ 9000 := by
  rw [Int.natAbs_pow]
  show 720720 ^ n < 2 ^ 9000
  have h1 : 720720 ^ n ≤ (2 ^ 20) ^ n := Nat.pow_le_pow_left (by decide) n
  have h2 : ((2 : Nat) ^ 20) ^ n = 2 ^ (20 * n) := (Nat.pow_mul 2 20 n).symm
  have h3 : (2 : Nat) ^ (20 * n) < 2 ^ 9000 := Nat.pow_lt_pow_right (by decide) (by omega)
  omega
end Mine
end
section
open PySem PySem.W PyProof.Rows PySem.SeqAt
set_option Elab.async false
set_option maxRecDepth 100000
namespace Mine
variable {κ : Kx} {Γ : Gx} {P : Px} {meths : List (PySem.Str × Addr)} {d : Nat} {env : Env} {vars : List (PySem.Str × Loc)}
theorem ss_subl (G : GOk κ Γ meths d) {o i : PySem.Expr} {p pos : Pos} {e : PySem.Expr} {pe po pi : PE} (hs : swapsWith e (some (.Subscript o i p)) pos.line env = pure false) (h : SE κ d env vars e (wpE Γ pe)) (ho : SE κ d env vars o (wpE Γ po)) (hi : SE κ d env vars i (wpE Γ pi)) :
    SS κ d env vars (.Assign [.Subscript o i p] e pos) (wpS Γ (.asg (.subl po pi) pe)) := by
  rintro A s σ ε q r S F hq
  refine wpAny_Assign_Subscript (wpAny_mono (h A s σ ε _ r S F hq) (fun v s1 zz => ?_) fun _ _ z => z) hs
  obtain ⟨σ1, w1, S1, x, ix, q1⟩ := zz
  refine wpAny_mono (ho A s1 σ1 ε _ r S1 (F.keep w1.fut) q1) (fun ov s2 zz => ?_) fun _ _ z => z
  obtain ⟨σ2, w2, S2, y, iy, q2⟩ := zz
  refine wpAny_mono (hi A s2 σ2 ε _ r S2 (F.keep (w1.trans w2).fut) q2) (fun iv s3 zz => ?_) fun _ _ z => z
  obtain ⟨σ3, w3, S3, k, ik, a, j, xs, e1, e2, e3, h0, hj, hz, q3⟩ := zz
  subst e1 e2
  cases iy
  cases ik
  have w := (w1.trans w2).trans w3
  obtain ⟨vs, n, o1, hvs, hb, _⟩ := S3.sits _ _ e3
  have hlt : j.toNat < vs.toArray.size := by rw [List.size_toArray, hvs.length]; exact hj
  refine ki_setAt o1 h0 (by rw [List.size_toArray, hvs.length] at hlt; omega) (by omega) ?_
  have q4 := PySem.IsL.update o1 (fun xs => xs.setIfInBounds j.toNat v)
  have e4 : vs.toArray.setIfInBounds j.toNat v = (vs.set j.toNat v).toArray := by simp
  rw [e4] at q4
  have hset : ∀ {vs : List Value} {xs : List V} (_ : Vals vs xs) (n : Nat), Vals (vs.set n v) (xs.set n x) := by
    intro vs xs h
    induction h with
    | nil => intro n; exact .nil
    | cons h1 h2 ih => intro n; cases n with | zero => exact .cons ix h2 | succ n => exact .cons h1 (ih n)
  obtain ⟨x1, x2⟩ := list_turn G S3 (tk := s3.toks) e3 q4 (Heap.SameBut.update ..) (hset hvs _) (by rw [List.length_set]; omega)
  exact ⟨.next, .next, _, ε, (w.trans (Way.of' x2)).weak, x1, (F.keep w.fut).keep x2, q3⟩
theorem Fut.comp' {W W' : List Addr} {σ σ' σ'' : Sto} {h h' h'' : Heap} (x : Fut W σ h σ' h') (y : Fut W' σ' h' σ'' h'') (hW' : ∀ b ∈ W', b ∉ W → h.get? b = none) (hx : ∀ b o, h.get? b = some o → h'.get? b = some o) : Fut W σ h σ'' h'' := by
  refine ⟨fun b o e n hw => ?_, fun a e => ?_⟩
  · refine y.keep b o (hx b o e) (x.still e n) fun hb => ?_
    rw [hW' b hb hw] at e; cases e
  · rcases y.dom a e with z | z
    · exact x.dom a z
    · cases q : h.get? a with
      | none => exact .inr rfl
      | some o => rw [hx a o q] at z; cases z
noncomputable def cloEnv (fd : FuncData) (L a : Addr) : Env := newEnv fd.scope L fd.globals fd.closure (fd.qualname ++ ".<locals>.") (some a) fd.code none fd.builtins
theorem enter_clo (G : GOk κ Γ meths d) {σ : Sto} {s : Shared} {A : Around} {f : Addr} {o : Obj} {fd : FuncData} {body : List PySem.Stmt} {vs : List (PySem.Str × Kind)} {args : List Value} {binds : List (PySem.Str × Value)} {xs : List V} {pb : PSs} {q : V → PostE} {ε : Env0}
    (r : Room A (d + 1)) (S : St κ σ s) (ho : s.heap.get? f = some o) (hdata : o.data = .func fd) (hcd : s.heap.CodeRec fd.code fd.qualname) (hbody : fd.body = .stmts body) (hgl : fd.globals = mainGlobals) (hbu : fd.builtins = builtinsNs)
    (hbind : bindArgs fd ⟨args, []⟩ = pure binds) (hnames : binds.map (·.1) = (vs.map (·.1)).take binds.length) (hv : Vals (binds.map (·.2)) xs) (hok : cloOk fd.scope.names vs = true) (hloc : ∀ y ∈ binds, fd.scope.names.lookup y.1 = some .local)
    (hco : fd.scope.isCoroutine = false) (hgen : fd.scope.isGenerator = false) (hk : fd.scope.kind = .function)
    (hclo : ∀ (i : Nat) (n : PySem.Str), vs[i]? = some (n, .cell) → xs.length ≤ i ∧ ∃ c ov, fd.closure.lookup n = some c ∧ s.heap.IsCell c ov ∧ σ c = none ∧ κ.base.get? c = none ∧ ∀ x, ε[i]? = some (some x) → ∃ v, ov = some v ∧ Is v x)
    (hdis : ∀ (i j : Nat) (n n' : PySem.Str), vs[i]? = some (n, .cell) → vs[j]? = some (n', .cell) → i ≠ j → (fd.closure.lookup n).getD 0 ≠ (fd.closure.lookup n').getD 0)
    (hε : ε.length = vs.length) (hεx : ∀ (i : Nat) (n : PySem.Str) (x : V), vs[i]? = some (n, .loc) → ε[i]? = some (some x) → xs[i]? = some x)
    (h : ∀ L vars, Fo κ (cloEnv fd L f) ⟨fd.scope.names, vs⟩ vars → SSs κ d (cloEnv fd L f) vars body (wpSs Γ pb))
    (hw : wpSs Γ pb (fun fl ε' σ' => match fl with | .ret v => q v ε' σ' | _ => False) ε σ) :
    codeAny (model κ.prog κ.w) A (.call (.ref f) ⟨args, []⟩) (fun r s' => ∃ v, r = .ok (.ret v) ∧ ∃ σ' ε' x, Way (fd.closure.map (·.2)) σ s σ' s' ∧ St κ σ' s' ∧
      (∀ (i : Nat) (n : PySem.Str) (c : Addr), vs[i]? = some (n, .cell) → fd.closure.lookup n = some c → ∃ ov, s'.heap.IsCell c ov ∧ ∀ x, ε'[i]? = some (some x) → ∃ v, ov = some v ∧ Is v x) ∧ Is v x ∧ q x ε' σ') s := by
  have T := G.ok.T.keeps (fun b o e => S.base b o e)
  unfold cloOk at hok
  obtain ⟨hok', hnocell⟩ := Bool.and_eq_true_iff.mp hok
  obtain ⟨hnd, hkinds⟩ := Bool.and_eq_true_iff.mp hok'
  have hnd := of_decide_eq_true hnd
  have kindAt : ∀ {i : Nat} {n : PySem.Str} {k : Kind}, vs[i]? = some (n, k) → (k = .loc ∧ fd.scope.names.lookup n = some .local) ∨ (k = .cell ∧ fd.scope.names.lookup n = some .free) := by
    intro i n k e
    have := List.all_eq_true.mp hkinds _ (List.mem_of_getElem? e)
    cases k with
    | loc => exact .inl ⟨rfl, by simpa using this⟩
    | cell => exact .inr ⟨rfl, by simpa using this⟩
    | hid => cases this
  have hbn : (binds.map (·.1)).Nodup := by rw [hnames]; exact List.Sublist.nodup (List.take_sublist _ _) hnd
  have bindAt : ∀ {i : Nat} {n : PySem.Str} {k : Kind} {x : V}, vs[i]? = some (n, k) → xs[i]? = some x → ∃ v, (n, v) ∈ binds ∧ Is v x := by
    intro i n k x e ex
    obtain ⟨v, ev, iv⟩ := hv.get ex
    rw [List.getElem?_map] at ev
    obtain ⟨p, hp, rfl⟩ := Option.map_eq_some_iff.mp ev
    refine ⟨p.2, ?_, iv⟩
    have e1 : (binds.map (·.1))[i]? = some p.1 := by rw [List.getElem?_map, hp]; rfl
    rw [hnames, List.getElem?_take, if_pos (List.getElem?_eq_some_iff.mp hp).1, List.getElem?_map, e] at e1
    cases e1
    exact List.mem_of_getElem? hp
  refine codeAny_call_function r.limit ho hdata hco hgen hbody hcd ?_
  rw [hbind]
  refine wpAny_pure (wpAny_newFunctionEnv (fun x hx => by have := List.all_eq_true.mp hnocell x hx; simpa using this) hloc (fun h1 hns hsb => ?_) hk)
  have keep : ∀ b o, s.heap.get? b = some o → h1.get? b = some o := fun b o e => hsb.extBut b o (Nat.ne_of_lt (Heap.lt_size e)) (Heap.get?_push_of_some _ e)
  refine ⟨T.nolimit.keeps keep, codeAny_func ?_⟩
  generalize hLe : s.heap.objs.size = L at hns hsb ⊢
  have freshA : ∀ b, L ≤ b → s.heap.get? b = none := fun b hb => by
    cases q : s.heap.get? b with
    | none => rfl
    | some o => exact absurd (Heap.lt_size q) (by rw [hLe]; exact Nat.not_lt.mpr hb)
  show wpAny _ (A.deeper (cloEnv fd L f)) (execs body (cloEnv fd L f)) _ _ _
  let vars := frameVars L fd.closure vs
  have varAt : ∀ {i : Nat} {n : PySem.Str} {l : Loc}, vars[i]? = some (n, l) → ∃ k, vs[i]? = some (n, k) ∧ ((k = .loc ∧ fd.scope.names.lookup n = some .local ∧ l = .loc L) ∨ (k = .cell ∧ fd.scope.names.lookup n = some .free ∧ ∃ c ov, fd.closure.lookup n = some c ∧ s.heap.IsCell c ov ∧ σ c = none ∧ κ.base.get? c = none ∧ (∀ x, ε[i]? = some (some x) → ∃ v, ov = some v ∧ Is v x) ∧ l = .cell c)) := by
    intro i n l e
    obtain ⟨k, hk, rfl⟩ := frame_get e
    refine ⟨k, hk, ?_⟩
    rcases kindAt hk with ⟨rfl, hl⟩ | ⟨rfl, hl⟩
    · exact .inl ⟨rfl, hl, rfl⟩
    · obtain ⟨_, c, ov, hc, h1, h2, h3, h4⟩ := hclo i n hk
      exact .inr ⟨rfl, hl, c, ov, hc, h1, h2, h3, h4, by simp [hc]⟩
  have eo : EnvOk (cloEnv fd L f) ⟨fd.scope.names, vs⟩ vars := by
    refine ⟨hk, hgl, hbu, rfl, by simp [vars, frameVars], fun i j n n' l l' e e' hij hn => ?_, fun i j n n' c l' e e' hij => ?_, fun i n e => ?_, fun i n e => ?_⟩
    · subst hn
      obtain ⟨k, hk, _⟩ := varAt e
      obtain ⟨k', hk', _⟩ := varAt e'
      exact absurd (idx_inj hnd hk hk') hij
    · obtain ⟨k, hk, h⟩ := varAt e
      obtain ⟨k', hk', h'⟩ := varAt e'
      rcases h with ⟨_, _, h⟩ | ⟨rfl, _, c1, ov, hc1, ⟨oc, eoc, _⟩, _, _, _, h⟩
      · cases h
      · cases h
        rcases h' with ⟨_, _, rfl⟩ | ⟨rfl, _, c2, _, hc2, _, _, _, _, rfl⟩
        · intro z
          have z : c = L := z
          subst z
          rw [freshA c (Nat.le_refl _)] at eoc; cases eoc
        · have := hdis i j n n' hk hk' hij
          rw [hc1, hc2] at this
          exact this
    · have e : vs[i]? = some (n, Kind.loc) := e
      show (frameVars L _ vs)[i]? = _
      unfold frameVars
      rw [List.getElem?_map, e]; rfl
    · have e : vs[i]? = some (n, Kind.cell) := e
      obtain ⟨_, c, ov, hc, _⟩ := hclo i n e
      refine ⟨c, ?_, hc⟩
      show (frameVars L _ vs)[i]? = _
      unfold frameVars
      rw [List.getElem?_map, e]
      simp [hc]
  have fo : Fo κ (cloEnv fd L f) ⟨fd.scope.names, vs⟩ vars := ⟨eo, fun i n l e => by
    obtain ⟨k, _, h⟩ := varAt e
    rcases h with ⟨_, _, rfl⟩ | ⟨_, _, c, ov, _, _, _, hb, _, rfl⟩
    · exact S.base_none (freshA _ (Nat.le_refl _))
    · exact hb⟩
  have F : FrameSt vars ε σ h1 := by
    refine ⟨by simp [vars, frameVars, hε], fun i n l e => ?_, fun i n L' e => ?_, fun i n c e => ?_⟩
    · obtain ⟨k, _, h⟩ := varAt e
      rcases h with ⟨_, _, rfl⟩ | ⟨_, _, c, ov, _, _, hσ, _, _, rfl⟩
      · exact S.none_of G.ok (freshA _ (Nat.le_refl _))
      · exact hσ
    · obtain ⟨k, hk, h⟩ := varAt e
      rcases h with ⟨rfl, hl, h⟩ | ⟨_, _, c, ov, _, _, _, _, _, h⟩
      · cases h
        refine ⟨_, hns, fun y ey => ?_⟩
        obtain ⟨v, hm, iv⟩ := bindAt hk (hεx i n y hk ey)
        refine ⟨v, ?_, iv⟩
        show binds.reverse.lookup n = some v
        have key : ∀ (l : List (PySem.Str × Value)), (l.map (·.1)).Nodup → (n, v) ∈ l → l.lookup n = some v := by
          intro l
          induction l with
          | nil => intro _ h; cases h
          | cons p l ih =>
            intro hn hm
            rw [List.lookup_cons]
            rcases List.mem_cons.mp hm with e | hm
            · subst e; rw [beq_self_eq_true]
            · have : n ≠ p.1 := fun e => (List.nodup_cons.mp hn).1 (List.mem_map.mpr ⟨(n, v), hm, e⟩)
              rw [beq_false_of_ne this]
              exact ih (List.nodup_cons.mp hn).2 hm
        exact key _ (by rw [List.map_reverse]; exact (List.reverse_perm _).nodup_iff.mpr hbn) (List.mem_reverse.mpr hm)
      · cases h
    · obtain ⟨k, hk, h⟩ := varAt e
      rcases h with ⟨_, hl, h⟩ | ⟨_, _, c1, ov, _, hcell, _, _, hx, h⟩
      · cases h
      · cases h
        exact ⟨ov, hcell.keeps keep, hx⟩
  have S1 : St κ σ { s with heap := h1, toks := s.toks + binds.length } := S.aside G.ok fun b o e _ => keep b o e
  have u0 : Fut (fd.closure.map (·.2)) σ s.heap σ h1 := Fut.same fun b o _ e => keep b o e
  refine wpAny_mono (h L vars fo (A.deeper (cloEnv fd L f)) _ σ ε _ (r.deeper _) S1 F hw) (fun fl s' zz => ?_) fun _ _ z => z.elim
  obtain ⟨g, hg, σ', ε', w, S', F', hq⟩ := zz
  obtain ⟨⟨h2, tk2, es2⟩, u⟩ := w
  subst es2
  cases hg with
  | next => exact hq.elim
  | brk => exact hq.elim
  | cont => exact hq.elim
  | @ret v x iv =>
    refine ⟨v, rfl, σ', ε', x, Way.of (u0.comp' u (fun b hb hw => ?_) keep), S', fun i n c hi hc => ?_, iv, hq⟩
    · obtain ⟨i, n, l, e, rfl⟩ := of_adrs hb
      obtain ⟨k, hk, h⟩ := varAt e
      rcases h with ⟨_, _, rfl⟩ | ⟨_, _, c, ov, hc, _, _, _, _, rfl⟩
      · exact freshA _ (Nat.le_refl _)
      · exact absurd (List.mem_map.mpr ⟨(n, c), mem_of_lookup hc, rfl⟩) hw
    · have e : vars[i]? = some (n, .cell c) := by
        show (frameVars L _ vs)[i]? = _
        unfold frameVars
        rw [List.getElem?_map, hi]
        simp [hc]
      exact F'.cell i n c e
end Mine
end
section
open PySem PySem.W PyProof.Rows PySem.SeqAt
set_option Elab.async false
set_option maxRecDepth 100000
namespace Mine
variable {κ : Kx} {Γ : Gx} {P : Px} {meths : List (PySem.Str × Addr)} {d : Nat} {env : Env} {vars : List (PySem.Str × Loc)}
noncomputable def tkP (pp : Arguments) (bb : List PySem.Stmt) (sc : Scope) (h : Heap) (a : Addr) (k : Nat) (F : List Addr) : Prop :=
  ∃ cp cc lp lc c nm q dc pm ct ks us t n n', F = [cp, cc, lp, lc, c] ∧ h.get? a = some (fnMade nm q pp bb sc [("place", cp), ("cells", cc)] dc pm c ct) ∧ h.IsCell cp (some (.ref lp)) ∧ h.IsCell cc (some (.ref lc)) ∧
    h.get? lp = some (listOf #[.int (k : Nat) t] n) ∧ h.get? lc = some (listOf us.toArray n') ∧ IntsAre us ks ∧ 0 < ks.length ∧ ks.length ≤ 63 ∧ [a, cp, cc, lp, lc, c].Nodup ∧ h.CodeRec (.ref c) q
theorem tk_keep {pp : Arguments} {bb : List PySem.Stmt} {sc : Scope} (h h' : Heap) (a : Addr) (k : Nat) (F : List Addr) (t : tkP pp bb sc h a k F) (hk : ∀ b, b = a ∨ b ∈ F → ∀ o, h.get? b = some o → h'.get? b = some o) : tkP pp bb sc h' a k F := by
  obtain ⟨cp, cc, lp, lc, c, nm, q, dc, pm, ct, ks, us, t, n, n', rfl, e1, ⟨o2, e2, d2⟩, ⟨o3, e3, d3⟩, e4, e5, hI, h0, h1, hn, ⟨c', oc, vs, tt, ec, e6, r⟩⟩ := t
  cases ec
  exact ⟨cp, cc, lp, lc, c, nm, q, dc, pm, ct, ks, us, t, n, n', rfl, hk _ (.inl rfl) _ e1, ⟨o2, hk _ (.inr (by simp)) _ e2, d2⟩, ⟨o3, hk _ (.inr (by simp)) _ e3, d3⟩, hk _ (.inr (by simp)) _ e4, hk _ (.inr (by simp)) _ e5, hI, h0, h1, hn, c, oc, vs, tt, rfl, hk _ (.inr (by simp)) _ e6, r⟩
theorem tk_at {pp : Arguments} {bb : List PySem.Stmt} {sc : Scope} (h : Heap) (a : Addr) (k : Nat) (F : List Addr) (t : tkP pp bb sc h a k F) : ∃ o, h.get? a = some o := by
  obtain ⟨cp, cc, lp, lc, c, nm, q, dc, pm, ct, ks, us, t, n, n', rfl, e1, _⟩ := t
  exact ⟨_, e1⟩
theorem tk_keeper {pp : Arguments} {bb : List PySem.Stmt} {sc : Scope} {M : Model} (h : Heap) (a : Addr) (k : Nat) (F : List Addr) (t : tkP pp bb sc h a k F) : ∃ kp, (kp = Keeper.frame ∨ kp = Keeper.machine ∨ kp = Keeper.boundFrame) ∧ Looks M h (keeperOf (.ref a)) kp := by
  obtain ⟨cp, cc, lp, lc, c, nm, q, dc, pm, ct, ks, us, t, n, n', rfl, e1, _⟩ := t
  exact ⟨.frame, .inl rfl, (Looks.ld (part := none) e1).andThen .now⟩
@[reducible] noncomputable def takeVs : List (PySem.Str × Kind) := [("limit", .loc), ("k", .loc), ("level", .loc), ("place", .cell), ("cells", .cell)]
@[reducible] noncomputable def takeB : PSs := .cons (.asg (.var 1) (.sub (.var 3) (.int 0))) (.cons (.asg (.subl (.var 3) (.int 0)) (.add (.var 1) (.int 1))) (.cons (.asg (.var 2) (.ar .fdiv (.var 1) (.bi .len (.var 4))))
  (.cons (.ret (.ar .mod (.add (.ar .fdiv (.sub (.var 4) (.ar .mod (.var 1) (.bi .len (.var 4)))) (.ar .pow (.int 720720) (.var 2))) (.ar .mul (.var 2) (.add (.ar .mul (.int 7) (.var 1)) (.int 3)))) (.var 0))) .nil)))
theorem take_pure {Γ : Gx} (hst : ∀ a, Γ.stat a = none) {lp lc : Addr} {k : Nat} {ks : List Int} {lim : Int} {σ : Sto} (hlp : σ lp = some (.list true [.int (k : Nat)])) (hlc : σ lc = some (.list true (ks.map .int))) (ne : lc ≠ lp) (h0 : 0 < ks.length) (h1 : ks.length ≤ 63) (hk : k < 400) (hl : 0 < lim)
    {q : V → PostE} (hq : ∀ r : Int, 0 ≤ r → r < lim → ∀ k' l', q (.int r) [some (.int lim), some k', some l', some (.ref lp), some (.ref lc)] (σ.set lp (.list true [.int ((k + 1 : Nat) : Int)]))) :
    wpSs Γ takeB (fun fl ε' σ' => match fl with | .ret v => q v ε' σ' | _ => False) [some (.int lim), none, none, some (.ref lp), some (.ref lc)] σ := by
  have hlook : ∀ (τ : Sto) a, look Γ τ a = τ a := fun τ a => by unfold look; rw [hst]
  have hn : ((ks.length : Nat) : Int) ≠ 0 := by omega
  have hdiv : Builtin.divisionGoesByPylong (k : Nat) ((ks.length : Nat) : Int) = false := small_div (by
    have : (((ks.length : Nat) : Int)).natAbs = ks.length := Int.natAbs_natCast _
    rw [this]
    exact Nat.lt_of_le_of_lt h1 (by decide +kernel))
  have hfd : ((k : Nat) : Int).fdiv ((ks.length : Nat) : Int) = ((k / ks.length : Nat) : Int) := by
    rw [Int.fdiv_eq_ediv_of_nonneg _ (by omega)]; rfl
  have hfm : ((k : Nat) : Int).fmod ((ks.length : Nat) : Int) = ((k % ks.length : Nat) : Int) := by
    rw [Int.fmod_eq_emod_of_nonneg _ (by omega)]; rfl
  have hle : k / ks.length ≤ 400 := Nat.le_trans (Nat.div_le_self _ _) (by omega)
  have hlt : k % ks.length < ks.length := Nat.mod_lt _ h0
  have hq0 : (0 : Int) ≤ ((k / ks.length : Nat) : Int) := Int.natCast_nonneg _
  have hq1 : ((k / ks.length : Nat) : Int) ≤ 400 := Int.ofNat_le.mpr hle
  have hget : (ks.map V.int)[k % ks.length]? = some (.int ks[k % ks.length]) := by simp [hlt]
  have hpos : (0 : Int) < 720720 ^ (k / ks.length) := Int.pow_pos (by decide)
  have hlc' : (σ.set lp (.list true ([V.int (k : Nat)].set (Int.toNat 0) (V.int ((k : Nat) + 1))))) lc = some (.list true (ks.map .int)) := by rw [Sto.set_ne _ _ ne]; exact hlc
  show wpE Γ _ _ _ _
  refine ⟨_, rfl, ?_⟩
  show subW Γ (.ref lp) (.int 0) _ σ
  unfold subW
  dsimp only
  rw [hlook, hlp]
  refine ⟨by decide, by decide, _, rfl, by simp, ?_⟩
  refine ⟨_, rfl, ?_⟩
  refine ⟨_, rfl, _, _, _, rfl, rfl, hlp, by decide, by simp, by simp, ?_⟩
  refine ⟨_, rfl, _, rfl, _, _, (hlook _ _).trans hlc', rfl, (fun _ => nofun), (fun _ => nofun), ?_⟩
  rw [List.length_map]
  refine ⟨_, _, rfl, rfl, hn, hdiv, by simp, ?_⟩
  rw [hfd]
  refine ⟨_, rfl, _, rfl, _, rfl, _, _, (hlook _ _).trans hlc', rfl, (fun _ => nofun), (fun _ => nofun), ?_⟩
  rw [List.length_map]
  refine ⟨_, _, rfl, rfl, hn, ?_⟩
  rw [hfm]
  show subW Γ (.ref lc) (.int ((k % ks.length : Nat) : Int)) _ _
  unfold subW
  dsimp only
  rw [hlook, hlc']
  refine ⟨by omega, by unfold big; omega, _, by rw [Int.toNat_natCast]; exact hget, _, rfl, _, _, rfl, rfl, rfl, by omega, by omega, ?_⟩
  rw [Int.toNat_natCast]
  refine ⟨_, _, rfl, rfl, by omega, small_div (pow_small hle), _, rfl, _, rfl, _, _, rfl, rfl, by decide, by decide, _, _, rfl, rfl, by omega, by omega, _, rfl, _, _, rfl, rfl, by omega, ?_⟩
  have e : ((k : Nat) : Int) + 1 = ((k + 1 : Nat) : Int) := by omega
  refine cast (by rw [← e]; rfl) (hq _ ?_ ?_ (.int (k : Nat)) (.int ((k / ks.length : Nat) : Int)))
  · rw [Int.fmod_eq_emod_of_nonneg _ (by omega)]; exact Int.emod_nonneg _ (by omega)
  · rw [Int.fmod_eq_emod_of_nonneg _ (by omega)]; exact Int.emod_lt_of_pos _ hl
end Mine
end
section
open PySem PySem.W PyProof.Rows PySem.SeqAt
set_option Elab.async false
set_option maxRecDepth 100000
namespace Mine
variable {κ : Kx} {Γ : Gx} {P : Px} {meths : List (PySem.Str × Addr)} {d : Nat} {env : Env} {vars : List (PySem.Str × Loc)}
@[reducible] noncomputable def Kx.bare (κ : Kx) : Kx := { κ with tk := fun _ _ _ _ => False }
theorem take_ok {pp : Arguments} {bb : List PySem.Stmt} {sc : Scope} (hκ : κ.tk = tkP pp bb sc) (O : κ.Ok) {C : Addr} (hcls : clsOk κ.K C κ.names meths = true)
    (hargs : ∀ nm q cl dc pm c ct v, bindArgs (fnX nm q pp bb sc cl .none .none dc pm none (.ref c) ct) ⟨[v], []⟩ = pure [(("limit" : PySem.Str), v)])
    (hok : cloOk sc.names takeVs = true) (hloc : sc.names.lookup ("limit" : PySem.Str) = some NameKind.local) (hco : sc.isCoroutine = false) (hgen : sc.isGenerator = false) (hkd : sc.kind = .function)
    (hder : ∀ Γ' n, GOk κ.bare Γ' meths n → ∀ nm q cl dc pm c ct L f vars, Fo κ.bare (cloEnv (fnX nm q pp bb sc cl .none .none dc pm none (.ref c) ct) L f) ⟨sc.names, takeVs⟩ vars →
      SSs κ.bare n (cloEnv (fnX nm q pp bb sc cl .none .none dc pm none (.ref c) ct) L f) vars bb (wpSs Γ' takeB))
    (a : Addr) (k : Nat) (lim : Int) (t : Tok) (n : Nat) (A : Around) (s : Shared) (σ : Sto) (q : Post) (r : Room A (n + 1)) (S : St κ σ s) (ha : σ a = some (.taker k)) (hk : k < 400) (hl0 : 0 < lim) (_hl1 : lim ≤ 1000)
    (hq : ∀ r : Int, 0 ≤ r → r < lim → q (V.int r) (σ.set a (.taker (k + 1)))) : Goes κ [] A (call (.ref a) [.int lim t]) σ s (fun v σ' => ∃ x, Is v x ∧ q x σ') := by
  obtain ⟨F, htk, hpriv⟩ := S.sits _ _ ha
  rw [hκ] at htk
  obtain ⟨cp, cc, lp, lc, c, nm, qn, dc, pm, ct, ks, us, t', n1, n2, rfl, e1, e2, e3, e4, e5, hI, h0, h1, hnd, hcr⟩ := htk
  simp only [List.nodup_cons, List.mem_cons, List.not_mem_nil, or_false, not_or, List.nodup_nil, not_false_eq_true, and_true] at hnd
  obtain ⟨⟨ha1, ha2, ha3, ha4, ha5⟩, ⟨hp1, hp2, hp3, hp4⟩, ⟨hc1, hc2, hc3⟩, ⟨hl1, hl2⟩, hlc⟩ := hnd
  have pr : ∀ b, (b = cp ∨ b = cc ∨ b = lp ∨ b = lc ∨ b = c) → σ b = some (.priv a) ∧ κ.base.get? b = none := fun b hb => hpriv b (by simpa using hb)
  have O' : κ.bare.Ok := ⟨O.X, O.T, fun _ _ _ _ _ h => h.elim, fun _ _ _ _ h => h.elim⟩
  let Γ' : Gx := ⟨fun _ => none, C, fun i => ((meths[i]?).map (·.2)).getD 0, fun _ _ _ _ => False⟩
  have G' : GOk κ.bare Γ' meths n := ⟨O', (fun _ _ h => nomatch h), (fun _ _ h => nomatch h), hcls, (fun i p h => by simp [Γ', h]), (fun _ _ _ _ _ _ _ h => h.elim),
    (fun _ a k lim t A s σ q _ S e => by obtain ⟨F, h, _⟩ := S.sits _ _ e; exact h.elim), (fun _ _ _ _ h => h.elim)⟩
  let τ : Sto := fun b => if b = lp then some (.list true [.int (k : Nat)]) else if b = lc then some (.list true (ks.map .int)) else none
  have tlp : τ lp = some (.list true [.int (k : Nat)]) := if_pos rfl
  have tlc : τ lc = some (.list true (ks.map .int)) := by show (if lc = lp then _ else _) = _; rw [if_neg (Ne.symm hl1), if_pos rfl]
  have tno : ∀ b, b ≠ lp → b ≠ lc → τ b = none := fun b x y => by show (if b = lp then _ else _) = _; rw [if_neg x, if_neg y]
  have S' : St κ.bare τ s := by
    refine ⟨fun b o e => ?_, S.base⟩
    by_cases x : b = lp
    · subst x
      rw [tlp] at e; cases e
      exact ⟨[.int (k : Nat) t'], n1, e4, .cons (.int _ _) .nil, fun _ => (pr _ (.inr (.inr (.inl rfl)))).2, by simp⟩
    · by_cases y : b = lc
      · subst y
        rw [tlc] at e; cases e
        exact ⟨us, n2, e5, ints_vals hI, fun _ => (pr _ (.inr (.inr (.inr (.inl rfl))))).2, by rw [List.length_map]; omega⟩
      · rw [tno b x y] at e; cases e
  refine wpAny_call (codeAny_mono (enter_clo (κ := κ.bare) (Γ := Γ') (vs := takeVs) (xs := [.int lim]) (ε := [some (.int lim), none, none, some (.ref lp), some (.ref lc)]) (binds := [(("limit" : PySem.Str), .int lim t)]) (pb := takeB)
    (q := fun x ε' σ' => ∃ r : Int, x = .int r ∧ 0 ≤ r ∧ r < lim ∧ (∃ k' l', ε' = [some (.int lim), some k', some l', some (.ref lp), some (.ref lc)]) ∧ σ' = τ.set lp (.list true [.int ((k + 1 : Nat) : Int)]))
    G' r S' e1 rfl hcr rfl rfl rfl (hargs _ _ _ _ _ _ _ _) rfl (.cons (.int _ _) .nil) hok (fun y hy => ?_) hco hgen hkd (fun i m hi => ?_) (fun i j m m' hi hj hij => ?_) rfl (fun i m x hi hx => ?_) (fun L vars fo => hder Γ' n G' _ _ _ _ _ _ _ _ _ vars fo)
    (take_pure (fun _ => rfl) tlp tlc (Ne.symm hl1) h0 h1 hk hl0 fun r r0 r1 k' l' => ⟨r, rfl, r0, r1, ⟨k', l', rfl⟩, rfl⟩)) ?_)
  · have : y = (("limit" : PySem.Str), Value.int lim t) := by simpa using hy
    subst this; exact hloc
  · have key : ∀ (c : Addr) (lx : Addr) (m : PySem.Str), s.heap.IsCell c (some (.ref lx)) → (c = cp ∨ c = cc) → c ≠ lp → c ≠ lc → ([("place", cp), ("cells", cc)] : List (PySem.Str × Addr)).lookup m = some c →
        ∃ c' ov, ([("place", cp), ("cells", cc)] : List (PySem.Str × Addr)).lookup m = some c' ∧ s.heap.IsCell c' ov ∧ τ c' = none ∧ κ.bare.base.get? c' = none ∧ ∀ x, (some (some (V.ref lx)) : Option (Option V)) = some (some x) → ∃ v, ov = some v ∧ Is v x :=
      fun c lx m h1 h2 h3 h4 h5 => ⟨c, _, h5, h1, tno c h3 h4, (pr c (h2.elim .inl fun z => .inr (.inl z))).2, fun x hx => by cases hx; exact ⟨_, rfl, .ref _⟩⟩
    match i, hi with
    | 0, hi => simp at hi
    | 1, hi => simp at hi
    | 2, hi => simp at hi
    | 3, hi => simp at hi; subst hi; exact ⟨by simp, key cp lp _ e2 (.inl rfl) (by omega) (by omega) rfl⟩
    | 4, hi => simp at hi; subst hi; exact ⟨by simp, key cc lc _ e3 (.inr rfl) (by omega) (by omega) rfl⟩
    | i + 5, hi => simp at hi
  · match i, hi, j, hj with
    | 3, hi, 4, hj => simp at hi hj; subst hi hj; exact hp1
    | 4, hi, 3, hj => simp at hi hj; subst hi hj; exact Ne.symm hp1
    | 3, hi, 3, hj => exact absurd rfl hij
    | 4, hi, 4, hj => exact absurd rfl hij
    | 0, hi, _, _ => simp at hi
    | 1, hi, _, _ => simp at hi
    | 2, hi, _, _ => simp at hi
    | i + 5, hi, _, _ => simp at hi
    | _, _, 0, hj => simp at hj
    | _, _, 1, hj => simp at hj
    | _, _, 2, hj => simp at hj
    | _, _, j + 5, hj => simp at hj
  · match i, hi, hx with
    | 0, hi, hx => simpa using hx
    | 1, hi, hx => simp at hx
    | 2, hi, hx => simp at hx
    | 3, hi, hx => simp at hi
    | 4, hi, hx => simp at hi
    | i + 5, hi, hx => simp at hi
  · rintro res s' ⟨v, rfl, σ', ε', x, w, S2, hcells, iv, r', rfl, r0, r1, ⟨k', l', rfl⟩, rfl⟩
    obtain ⟨⟨h', tk', es⟩, u⟩ := w
    subst es
    dsimp only at S2 u hcells
    obtain ⟨ov, hcp, ox⟩ := hcells 3 "place" cp rfl rfl
    obtain ⟨_, rfl, ix⟩ := ox (.ref lp) rfl
    cases ix
    obtain ⟨ov, hcc, ox⟩ := hcells 4 "cells" cc rfl rfl
    obtain ⟨_, rfl, ix⟩ := ox (.ref lc) rfl
    cases ix
    obtain ⟨us1, m1, f1, hv1, _⟩ := S2.sits lp _ (Sto.set_self _ _ _)
    obtain ⟨us2, m2, f2, hv2, _⟩ := S2.sits lc (.list true (ks.map .int)) (by rw [Sto.set_ne _ _ (Ne.symm hl1)]; exact tlc)
    have keepA : ∀ b o, b ≠ cp → b ≠ cc → b ≠ lp → b ≠ lc → s.heap.get? b = some o → h'.get? b = some o := fun b o x1 x2 x3 x4 e => u.keep b o e (tno b x3 x4) (by simp [x1, x2])
    have keepB : ∀ b o, b ∉ [cp, cc, lp, lc, c] → s.heap.get? b = some o → h'.get? b = some o := fun b o hb e => by
      simp only [List.mem_cons, List.not_mem_nil, or_false, not_or] at hb
      exact keepA b o hb.1 hb.2.1 hb.2.2.1 hb.2.2.2.1 e
    have hv1' : ∃ tt, us1 = [.int ((k + 1 : Nat) : Int) tt] := by
      cases hv1 with
      | cons i1 hr => cases hr; cases i1; exact ⟨_, rfl⟩
    obtain ⟨tt, rfl⟩ := hv1'
    have hcr' : h'.CodeRec (.ref c) qn := by
      obtain ⟨c', oc, vs, tq, ec, e6, r6⟩ := hcr
      cases ec
      exact ⟨c, oc, vs, tq, rfl, keepA c oc (Ne.symm hp4) (Ne.symm hc3) (Ne.symm hl2) (Ne.symm hlc) e6, r6⟩
    have htk' : tkP pp bb sc h' a (k + 1) [cp, cc, lp, lc, c] :=
      ⟨cp, cc, lp, lc, c, nm, qn, dc, pm, ct, ks, us2, tt, m1, m2, rfl, keepA a _ ha1 ha2 ha3 ha4 e1, hcp, hcc, f1, f2, ints_are hv2 (intsOf_map ks), h0, h1, by
        simp only [List.nodup_cons, List.mem_cons, List.not_mem_nil, or_false, not_or, List.nodup_nil, not_false_eq_true, and_true]
        exact ⟨⟨ha1, ha2, ha3, ha4, ha5⟩, ⟨hp1, hp2, hp3, hp4⟩, ⟨hc1, hc2, hc3⟩, ⟨hl1, hl2⟩, hlc⟩, hcr'⟩
    have hF : ∀ b ∈ [cp, cc, lp, lc, c], ∃ o, h'.get? b = some o := by
      obtain ⟨o1, g1, _⟩ := hcp
      obtain ⟨o2, g2, _⟩ := hcc
      obtain ⟨c', oc, vs, tq, ec, e6, r6⟩ := hcr'
      cases ec
      intro b hb
      simp only [List.mem_cons, List.not_mem_nil, or_false] at hb
      rcases hb with rfl | rfl | rfl | rfl | rfl
      · exact ⟨_, g1⟩
      · exact ⟨_, g2⟩
      · exact ⟨_, f1⟩
      · exact ⟨_, f2⟩
      · exact ⟨_, e6⟩
    have pr' : ∀ b ∈ [cp, cc, lp, lc, c], σ b = some (.priv a) ∧ κ.base.get? b = none := hpriv
    have ne_a : ∀ b ∈ [cp, cc, lp, lc, c], b ≠ a := fun b hb e => by have := (pr' b hb).1; rw [e, ha] at this; cases this
    refine ⟨σ.set a (.taker (k + 1)), Way.of ⟨fun b o e hn _ => keepB b o (fun hb => by rw [(pr' b hb).1] at hn; cases hn) e, fun b hb => ?_⟩, ⟨fun b o e => ?_, fun b o e => keepB b o (fun hb => by rw [(pr' b hb).2] at e; cases e) (S.base b o e)⟩, _, iv, hq r' r0 r1⟩
    · by_cases x : b = a
      · subst x; left; rw [ha]; exact fun z => nomatch z
      · rw [Sto.set_ne _ _ x] at hb; exact .inl hb
    · by_cases x : b = a
      · subst x
        rw [Sto.set_self] at e; cases e
        exact ⟨[cp, cc, lp, lc, c], by rw [hκ]; exact htk', fun b' hb' => ⟨by rw [Sto.set_ne _ _ (ne_a b' hb')]; exact (pr' b' hb').1, (pr' b' hb').2⟩⟩
      · rw [Sto.set_ne _ _ x] at e
        by_cases y : b ∈ [cp, cc, lp, lc, c]
        · rw [(pr' b y).1] at e; cases e
          exact hF b y
        · refine (S.sits b o e).keep O (fun c' oc hc ec => keepB c' oc (fun hm => ?_) ec) fun c' hc' => ?_
          · rcases hc with rfl | hc
            · exact y hm
            · rw [(pr' c' hm).1] at hc; cases hc; exact x rfl
          · rw [Sto.set_ne _ _ (fun z => by rw [z, ha] at hc'; cases hc')]; exact hc'
end Mine
end
section
open PySem PySem.W PyProof.Rows PySem.SeqAt
set_option Elab.async false
set_option maxRecDepth 100000
namespace Mine
variable {κ : Kx} {P : Px} {meths : List (PySem.Str × Addr)}
noncomputable def sto0 (f : Addr) (F : List Addr) : Sto := (Sto.hide (fun _ => none) F f).set f (.taker 0)
theorem law_close {pp : Arguments} {bb : List PySem.Stmt} {sc : Scope} (Gr : ∀ n, GOk κ (P.gx n) meths n) (htk : κ.tk = tkP pp bb sc) {s : Shared} {L : Addr} {m : PySem.Str → Option Value} {news : List (Addr × Obj)} {A : Around} {E : Value → Shared → Prop}
    (F : Fr κ.base L s.heap m) (N : News κ.base L s.heap news) {f cp cc lp lc c ct0 : Addr} {nm q : PySem.Str} {dc pm ct : Value} {o2 o3 oc o7 : Obj} {us vc : _} {ks : List Int} {t tq : Tok} {n n' : Nat}
    (m1 : (f, fnMade nm q pp bb sc [("place", cp), ("cells", cc)] dc pm c ct) ∈ news) (m2 : (cp, o2) ∈ news) (d2 : o2.data = .cell (some (.ref lp))) (m3 : (cc, o3) ∈ news) (d3 : o3.data = .cell (some (.ref lc)))
    (m4 : (lp, listOf #[.int 0 t] n) ∈ news) (m5 : (lc, listOf (us : List Value).toArray n') ∈ news) (hI : IntsAre us ks) (h0 : 0 < ks.length) (h1 : ks.length ≤ 63) (hnd : [f, cp, cc, lp, lc, c].Nodup)
    (m6 : (c, oc) ∈ news) (d6 : oc.data = .fields vc) (d6' : vc[1]? = some (.str q tq)) (m7 : (ct0, o7) ∈ news) (d7 : o7.data = .cell (some (.ref f))) (h7 : ct0 ∉ [f, cp, cc, lp, lc, c])
    {ct1 : Addr} {o8 : Obj} (m8 : (ct1, o8) ∈ news) (d8 : o8.data = .cell none) (h8 : ct1 ∉ [f, cp, cc, lp, lc, c]) (h80 : ct1 ≠ ct0)
    {env : Env} {rest : List PySem.Stmt} {pb : PSs} {vs : List (PySem.Str × Kind)} (hkd : env.scope.kind = .function) (hgl : env.globals = mainGlobals) (hbu : env.builtins = builtinsNs) (hL : env.locals = L) (hc : env.cells.lookup ("take" : PySem.Str) = some ct0) (hc1 : env.cells.lookup ("rows" : PySem.Str) = some ct1)
    (hok : frameOk env.scope.names vs = true) (hcl : ∀ (i : Nat) (n : PySem.Str), vs[i]? = some (n, .cell) → (i = 1 ∧ n = "take") ∨ (i = 2 ∧ n = "rows")) (hv1 : vs[1]? = some (("take" : PySem.Str), .cell)) (hlen : 2 ≤ vs.length)
    (hS : ∀ vars, Fo κ env ⟨env.scope.names, vs⟩ vars → SSs κ 6 env vars rest (wpSs (P.gx 6) pb))
    (hw : ∀ f F, f ∉ F → wpSs (P.gx 6) pb (fun fl _ _ => fl = .ret (.bool true)) (none :: some (.ref f) :: List.replicate (vs.length - 2) none) (sto0 f F))
    (r : Room A 6) {R : Flow → Shared → Prop}
    (hR : ∀ s', (∃ h tk, s' = { s with heap := h, toks := tk }) → κ.base.StaysIn s'.heap → (∀ b o, b ≠ L → b ∉ [f, cp, cc, lp, lc, c, ct0, ct1] → s.heap.get? b = some o → s'.heap.get? b = some o) → R (.ret (.bool true)) s') :
    wpAny (model κ.prog κ.w) A (execs rest env) R E s := by
  have O := (Gr 0).ok
  have hf : f ∉ [cp, cc, lp, lc, c] := (List.nodup_cons.mp hnd).1
  have at_ : ∀ {a o}, (a, o) ∈ news → s.heap.get? a = some o ∧ a ≠ L ∧ κ.base.get? a = none := fun h => N _ h
  have hpart : ∀ b ∈ [cp, cc, lp, lc, c], ∃ o, s.heap.get? b = some o ∧ b ≠ L ∧ κ.base.get? b = none := by
    intro b hb
    simp only [List.mem_cons, List.not_mem_nil, or_false] at hb
    rcases hb with rfl | rfl | rfl | rfl | rfl
    · exact ⟨_, at_ m2⟩
    · exact ⟨_, at_ m3⟩
    · exact ⟨_, at_ m4⟩
    · exact ⟨_, at_ m5⟩
    · exact ⟨_, at_ m6⟩
  have hbL : κ.base.get? L = none := by
    cases q : κ.base.get? L with
    | none => rfl
    | some o => exact absurd (Heap.lt_size q) (Nat.not_lt.mpr F.above)
  obtain ⟨ga, gb, gc⟩ := at_ m1
  obtain ⟨ha, hb, hc'⟩ := at_ m7
  obtain ⟨ia, ib, ic⟩ := at_ m8
  have sf : sto0 f [cp, cc, lp, lc, c] f = some (.taker 0) := Sto.set_self _ _ _
  have sp : ∀ b ∈ [cp, cc, lp, lc, c], sto0 f [cp, cc, lp, lc, c] b = some (.priv f) := fun b hb => by
    unfold sto0
    rw [Sto.set_ne _ _ (fun e => by subst e; exact hf hb)]
    unfold Sto.hide
    rw [if_pos hb]
  have sn : ∀ b, b ≠ f → b ∉ [cp, cc, lp, lc, c] → sto0 f [cp, cc, lp, lc, c] b = none := fun b h1 h2 => by
    unfold sto0
    rw [Sto.set_ne _ _ h1]
    unfold Sto.hide
    rw [if_neg h2]
  have S : St κ (sto0 f [cp, cc, lp, lc, c]) s := by
    refine ⟨fun b o e => ?_, F.keep⟩
    by_cases x : b = f
    · subst x
      rw [sf] at e; cases e
      refine ⟨[cp, cc, lp, lc, c], ?_, fun b' hb' => ⟨sp b' hb', (hpart b' hb').choose_spec.2.2⟩⟩
      rw [htk]
      exact ⟨cp, cc, lp, lc, c, nm, q, dc, pm, ct, ks, us, t, n, n', rfl, ga, ⟨o2, (at_ m2).1, d2⟩, ⟨o3, (at_ m3).1, d3⟩, (at_ m4).1, (at_ m5).1, hI, h0, h1, hnd, c, oc, _, tq, rfl, (at_ m6).1, d6, d6'⟩
    · by_cases y : b ∈ [cp, cc, lp, lc, c]
      · rw [sp b y] at e; cases e
        obtain ⟨o, eo, _⟩ := hpart b y
        exact ⟨o, eo⟩
      · rw [sn b x y] at e; cases e
  have h7' : ct0 ≠ f ∧ ct0 ∉ [cp, cc, lp, lc, c] := by simpa only [List.mem_cons, not_or] using h7
  have h8' : ct1 ≠ f ∧ ct1 ∉ [cp, cc, lp, lc, c] := by simpa only [List.mem_cons, not_or] using h8
  have hLs : sto0 f [cp, cc, lp, lc, c] L = none := sn L (Ne.symm gb) fun h => (hpart L h).choose_spec.2.1 rfl
  unfold frameOk at hok
  obtain ⟨hnd', hkinds⟩ := Bool.and_eq_true_iff.mp hok
  have hnd' := of_decide_eq_true hnd'
  let vars := frameVars L env.cells vs
  have varAt : ∀ {i : Nat} {n : PySem.Str} {l : Loc}, vars[i]? = some (n, l) → ∃ k, vs[i]? = some (n, k) ∧ ((k = .loc ∧ l = .loc L) ∨ (k = .cell ∧ i = 1 ∧ n = "take" ∧ l = .cell ct0) ∨ (k = .cell ∧ i = 2 ∧ n = "rows" ∧ l = .cell ct1)) := by
    intro i n l e
    obtain ⟨k, hk, rfl⟩ := frame_get e
    refine ⟨k, hk, ?_⟩
    cases k with
    | loc => exact .inl ⟨rfl, rfl⟩
    | cell =>
      rcases hcl i n hk with ⟨rfl, rfl⟩ | ⟨rfl, rfl⟩
      · exact .inr (.inl ⟨rfl, rfl, rfl, by simp [hc]⟩)
      · exact .inr (.inr ⟨rfl, rfl, rfl, by simp [hc1]⟩)
    | hid => have := List.all_eq_true.mp hkinds _ (List.mem_of_getElem? hk); cases this
  have adr : ∀ {i : Nat} {n : PySem.Str} {l : Loc}, vars[i]? = some (n, l) → l.adr = L ∨ l.adr = ct0 ∨ l.adr = ct1 := by
    intro i n l e
    obtain ⟨k, _, h⟩ := varAt e
    rcases h with ⟨_, rfl⟩ | ⟨_, _, _, rfl⟩ | ⟨_, _, _, rfl⟩
    · exact .inl rfl
    · exact .inr (.inl rfl)
    · exact .inr (.inr rfl)
  have eo : EnvOk env ⟨env.scope.names, vs⟩ vars := by
    refine ⟨hkd, hgl, hbu, rfl, by simp [vars, frameVars], fun i j n n' l l' e e' hij hn => ?_, fun i j n n' c l' e e' hij => ?_, fun i n e => ?_, fun i n e => ?_⟩
    · subst hn
      obtain ⟨k, hk, _⟩ := varAt e
      obtain ⟨k', hk', _⟩ := varAt e'
      exact absurd (idx_inj hnd' hk hk') hij
    · obtain ⟨k, hk, h⟩ := varAt e
      obtain ⟨k', hk', h'⟩ := varAt e'
      rcases h with ⟨_, h⟩ | ⟨_, rfl, rfl, h⟩ | ⟨_, rfl, rfl, h⟩
      · cases h
      · cases h
        rcases h' with ⟨_, rfl⟩ | ⟨_, rfl, rfl, rfl⟩ | ⟨_, rfl, rfl, rfl⟩
        · exact hb
        · exact absurd rfl hij
        · exact h80.symm
      · cases h
        rcases h' with ⟨_, rfl⟩ | ⟨_, rfl, rfl, rfl⟩ | ⟨_, rfl, rfl, rfl⟩
        · exact ib
        · exact h80
        · exact absurd rfl hij
    · have e : vs[i]? = some (n, Kind.loc) := e
      show (frameVars L _ vs)[i]? = some (n, .loc env.locals)
      unfold frameVars
      rw [List.getElem?_map, e, hL]; rfl
    · have e : vs[i]? = some (n, Kind.cell) := e
      rcases hcl i n e with ⟨rfl, rfl⟩ | ⟨rfl, rfl⟩
      · refine ⟨ct0, ?_, hc⟩
        show (frameVars L _ vs)[1]? = _
        unfold frameVars
        rw [List.getElem?_map, e]
        simp [hc]
      · refine ⟨ct1, ?_, hc1⟩
        show (frameVars L _ vs)[2]? = _
        unfold frameVars
        rw [List.getElem?_map, e]
        simp [hc1]
  have fo : Fo κ env ⟨env.scope.names, vs⟩ vars := ⟨eo, fun i n l e => by
    rcases adr e with h | h | h <;> rw [h]
    · exact hbL
    · exact hc'
    · exact ic⟩
  have Fs : FrameSt vars (none :: some (.ref f) :: List.replicate (vs.length - 2) none) (sto0 f [cp, cc, lp, lc, c]) s.heap := by
    have hrep : ∀ (i : Nat) (x : V), i ≠ 1 → (none :: some (.ref f) :: List.replicate (vs.length - 2) (none : Option V))[i]? = some (some x) → False := by
      intro i x hi e
      match i, hi, e with
      | 0, _, e => cases e
      | i + 2, _, e =>
        have e : (List.replicate (vs.length - 2) (none : Option V))[i]? = some (some x) := e
        have := List.mem_of_getElem? e
        rw [List.mem_replicate] at this
        cases this.2
    refine ⟨by simp [vars, frameVars]; omega, fun i n l e => ?_, fun i n L' e => ?_, fun i n c e => ?_⟩
    · rcases adr e with h | h | h <;> rw [h]
      · exact hLs
      · exact sn ct0 h7'.1 h7'.2
      · exact sn ct1 h8'.1 h8'.2
    · obtain ⟨k, hk, h⟩ := varAt e
      rcases h with ⟨rfl, h⟩ | ⟨_, _, _, h⟩ | ⟨_, _, _, h⟩
      · cases h
        refine ⟨m, F.ns, fun y ey => (hrep i y (fun hi => ?_) ey).elim⟩
        subst hi
        have a1 : vs[1]? = some (n, Kind.loc) := hk
        rw [hv1] at a1
        cases a1
      · cases h
      · cases h
    · obtain ⟨k, hk, h⟩ := varAt e
      rcases h with ⟨_, h⟩ | ⟨_, rfl, _, h⟩ | ⟨_, rfl, _, h⟩
      · cases h
      · cases h
        exact ⟨_, ⟨o7, ha, d7⟩, fun y ey => by cases ey; exact ⟨_, rfl, .ref _⟩⟩
      · cases h
        exact ⟨_, ⟨o8, ia, d8⟩, fun y ey => (hrep 2 y (by decide) ey).elim⟩
  refine wpAny_mono (hS vars fo A s _ _ _ r S Fs (hw f _ hf)) (fun fl s' zz => ?_) fun _ _ z => z.elim
  obtain ⟨g, hg, σ', ε', w, S', F', hq⟩ := zz
  subst hq
  cases hg with
  | ret iv =>
    cases iv
    refine hR s' w.same S'.base fun b o h1 h2 e => w.fut.keep b o e (sn b (fun z => h2 (by simp [z])) fun z => h2 ?_) fun hb => ?_
    · simp only [List.mem_cons, List.not_mem_nil, or_false] at z ⊢
      rcases z with z | z | z | z | z <;> simp [z]
    · obtain ⟨i, n, l, ei, rfl⟩ := of_adrs hb
      rcases adr ei with h | h | h
      · exact h1 h
      · exact h2 (by simp [h])
      · exact h2 (by simp [h])
theorem nd6 {f cp cc lp lc c : Addr} (h1 : @LT.lt Nat instLTNat cc cp) (h2 : @LT.lt Nat instLTNat cp lc) (h3 : @LT.lt Nat instLTNat lc lp) (h4 : @LT.lt Nat instLTNat lp c) (h5 : @LT.lt Nat instLTNat c f) : [f, cp, cc, lp, lc, c].Nodup := by
  have e : ∀ {a b : Nat}, a < b → a ≠ b := fun h e => by omega
  have e' : ∀ {a b : Nat}, a < b → b ≠ a := fun h e => by omega
  have t := @Nat.lt_trans
  simp only [List.nodup_cons, List.mem_cons, List.not_mem_nil, or_false, not_or, List.nodup_nil, not_false_eq_true, and_true]
  exact ⟨⟨e' (t (t (t h2 h3) h4) h5), e' (t (t (t (t h1 h2) h3) h4) h5), e' (t h4 h5), e' (t (t h3 h4) h5), e' h5⟩, ⟨e' h1, e (t h2 h3), e h2, e (t (t h2 h3) h4)⟩, ⟨e (t (t h1 h2) h3), e (t h1 h2), e (t (t (t h1 h2) h3) h4)⟩, ⟨e' h3, e h4⟩, e (t h3 h4)⟩
theorem nd7 {f cp cc lp lc c ct : Addr} (h0 : @LT.lt Nat instLTNat ct cc) (h1 : @LT.lt Nat instLTNat cc cp) (h2 : @LT.lt Nat instLTNat cp lc) (h3 : @LT.lt Nat instLTNat lc lp) (h4 : @LT.lt Nat instLTNat lp c) (h5 : @LT.lt Nat instLTNat c f) : ct ∉ [f, cp, cc, lp, lc, c] := by
  have e : ∀ {a b : Nat}, a < b → a ≠ b := fun h e => by omega
  have t := @Nat.lt_trans
  simp only [List.mem_cons, List.not_mem_nil, or_false, not_or]
  have t1 := t h0 h1
  have t2 := t t1 h2
  have t3 := t t2 h3
  have t4 := t t3 h4
  exact ⟨e (t t4 h5), e t1, e h0, e t3, e t2, e t4⟩
theorem nd8 {f cp cc lp lc c ct x : Addr} (hx : @LT.lt Nat instLTNat x ct) (h0 : @LT.lt Nat instLTNat ct cc) (h1 : @LT.lt Nat instLTNat cc cp) (h2 : @LT.lt Nat instLTNat cp lc) (h3 : @LT.lt Nat instLTNat lc lp) (h4 : @LT.lt Nat instLTNat lp c) (h5 : @LT.lt Nat instLTNat c f) : x ∉ [f, cp, cc, lp, lc, c, ct] := by
  have z := nd7 (Nat.lt_trans hx h0) h1 h2 h3 h4 h5
  intro h
  have : x ∈ [f, cp, cc, lp, lc, c] ∨ x = ct := by
    simp only [List.mem_cons, List.not_mem_nil, or_false] at h ⊢
    rcases h with h | h | h | h | h | h | h <;> simp [h]
  rcases this with h | h
  · exact z h
  · exact absurd h (Nat.ne_of_lt hx)
theorem nd9 {f cp cc lp lc c ct ct1 x : Addr} (hx : @LT.lt Nat instLTNat x ct) (hx1 : @LT.lt Nat instLTNat x ct1) (h0 : @LT.lt Nat instLTNat ct cc) (h1 : @LT.lt Nat instLTNat cc cp) (h2 : @LT.lt Nat instLTNat cp lc) (h3 : @LT.lt Nat instLTNat lc lp) (h4 : @LT.lt Nat instLTNat lp c) (h5 : @LT.lt Nat instLTNat c f) : x ∉ [f, cp, cc, lp, lc, c, ct, ct1] := by
  have z := nd8 hx h0 h1 h2 h3 h4 h5
  have e : x ≠ ct1 := fun e => by rw [e] at hx1; exact Nat.lt_irrefl _ hx1
  simp only [List.mem_cons, List.not_mem_nil, or_false, not_or] at z ⊢
  exact ⟨z.1, z.2.1, z.2.2.1, z.2.2.2.1, z.2.2.2.2.1, z.2.2.2.2.2.1, z.2.2.2.2.2.2, e⟩
end Mine
end
section
open PySem PySem.W PyProof.Rows PySem.SeqAt
set_option Elab.async false
set_option maxRecDepth 100000
namespace Mine
theorem wpAny_AndC {M : Model} {A : Around} {E : Value → Shared → Prop} {s : Shared} {env : Env} {x y : PySem.Expr} {r : List PySem.Expr} {pos : Pos} {Q : Value → Shared → Prop}
    (h : wpAny M A (eval x env) (fun v s₁ => wpAny M A (truthy v) (fun t s₂ => if t then wpAny M A (eval (.BoolOp .And (y :: r) pos) env) Q E s₂ else Q v s₂) E s₁) E s) :
    wpAny M A (eval (.BoolOp .And (x :: y :: r) pos) env) Q E s := by
  show wpAny M A (do
    let v ← eval x env
    standAt pos
    let t ← holding [v] (truthy v)
    match BoolOp.And, t with
    | .And, false | .Or, true => pure v
    | _, _ => boolOp pos .And (evalEach (y :: r) env)) Q E s
  refine wpAny_bind (wpAny_mono h (fun v s₁ h₁ => wpAny_bind (wpAny_standAt (wpAny_bind (wpAny_holding (wpAny_mono h₁ (fun t s₂ h₂ => ?_) fun _ _ x => x))))) fun _ _ x => x)
  cases t with
  | false => exact wpAny_pure h₂
  | true => exact h₂
variable {κ : Kx} {Γ : Gx} {meths : List (PySem.Str × Addr)} {d : Nat} {env : Env} {vars : List (PySem.Str × Loc)}
theorem se_andC (G : GOk κ Γ meths d) {a y : PySem.Expr} {r : List PySem.Expr} {pos : Pos} {pa pb : PE} (ha : SE κ d env vars a (wpE Γ pa)) (hb : SE κ d env vars (.BoolOp .And (y :: r) pos) (wpE Γ pb)) : SE κ d env vars (.BoolOp .And (a :: y :: r) pos) (wpE Γ (.and pa pb)) := by
  rintro A s σ ε q r S F hq
  refine wpAny_AndC (wpAny_mono (ha A s σ ε _ r S F hq) (fun v s1 zz => ?_) fun _ _ z => z)
  obtain ⟨σ1, w1, S1, x, ix, t, ht, q1⟩ := zz
  refine wpAny_mono (truth_ok G (A := A) (q := fun t' σ' => t' = t ∧ σ' = σ1) S1 ix ht ⟨rfl, rfl⟩) (fun t' s2 zz => ?_) fun _ _ z => z
  obtain ⟨σ2, w2, S2, e1, e2⟩ := zz
  subst e1 e2
  cases t' with
  | true => exact Goes.up (w1.trans w2) (hb A s2 σ2 ε q r S2 (F.keep (w1.trans w2).fut) q1)
  | false => exact ⟨σ2, w1.trans w2, S2, x, ix, q1⟩
end Mine
end
section
open PySem
set_option Elab.async false
set_option maxRecDepth 100000
namespace Mine
section
variable {Γ : Gx} {ε : Env0} {σ : Sto}
theorem e_var {i : Nat} {q : Post} : wpE Γ (.var i) q ε σ = ∃ x, ε[i]? = some (some x) ∧ q x σ := rfl
theorem e_none {q : Post} : wpE Γ .none q ε σ = q .none σ := rfl
theorem e_bool {b : Bool} {q : Post} : wpE Γ (.bool b) q ε σ = q (.bool b) σ := rfl
theorem e_int {i : Int} {q : Post} : wpE Γ (.int i) q ε σ = q (.int i) σ := rfl
theorem e_str {x : PySem.Str} {q : Post} : wpE Γ (.str x) q ε σ = q (.str x) σ := rfl
theorem e_bytes {x : List UInt8} {q : Post} : wpE Γ (.bytes x) q ε σ = q (.bytes x.toArray) σ := rfl
theorem e_glob {a : Addr} {q : Post} : wpE Γ (.glob a) q ε σ = q (.ref a) σ := rfl
theorem e_attr {e : PE} {i : Nat} {q : Post} : wpE Γ (.attr e i) q ε σ = wpE Γ e (fun v σ' => ∃ a fs x, v = .ref a ∧ σ' a = some (.inst Γ.cls fs) ∧ fs[i]? = some x ∧ q x σ') ε σ := rfl
theorem e_list {es : PEs} {q : Post} : wpE Γ (.list es) q ε σ = wpEs Γ es (fun xs σ' => ∀ l, New Γ σ' l → q (.ref l) (σ'.set l (.list true xs))) ε σ := rfl
theorem e_tup {es : PEs} {q : Post} : wpE Γ (.tup es) q ε σ = wpEs Γ es (fun xs σ' => ∀ l, New Γ σ' l → q (.ref l) (σ'.set l (.tup xs))) ε σ := rfl
theorem e_dict {es : PEs} {q : Post} : wpE Γ (.dict es) q ε σ = wpDs Γ es (fun ps σ' => ∀ l, New Γ σ' l → ∀ ep, q (.ref l) (σ'.set l (.dict (ps.foldl (fun es p => putE p.1 p.2 es) []) ep))) ε σ := rfl
theorem e_ite {c : PC} {a b : PE} {q : Post} : wpE Γ (.ite c a b) q ε σ = wpC Γ c (fun t σ' => if t then wpE Γ a q ε σ' else wpE Γ b q ε σ') ε σ := rfl
theorem e_add {a b : PE} {q : Post} : wpE Γ (.add a b) q ε σ = wpE Γ a (fun x σ' => wpE Γ b (fun y σ'' => addW Γ x y q σ'') ε σ') ε σ := rfl
theorem e_cmp {op : Op} {a b : PE} {q : Post} : wpE Γ (.cmp op a b) q ε σ = wpE Γ a (fun x σ' => wpE Γ b (fun y σ'' => opW Γ op x y (fun t => q (.bool t)) σ'') ε σ') ε σ := rfl
theorem e_and {a b : PE} {q : Post} : wpE Γ (.and a b) q ε σ = wpE Γ a (fun x σ' => ∃ t, truV (look Γ σ') x = some t ∧ if t then wpE Γ b q ε σ' else q x σ') ε σ := rfl
theorem e_sub {a i : PE} {q : Post} : wpE Γ (.sub a i) q ε σ = wpE Γ a (fun x σ' => wpE Γ i (fun y σ'' => subW Γ x y q σ'') ε σ') ε σ := rfl
theorem e_fn {f : Addr} {args : PEs} {q : Post} : wpE Γ (.fn f args) q ε σ = wpEs Γ args (fun xs σ' => Γ.fn f xs q σ') ε σ := rfl
theorem e_bi {f : BI} {e : PE} {q : Post} : wpE Γ (.bi f e) q ε σ = wpE Γ e (fun x σ' => biW Γ f x q σ') ε σ := rfl
theorem e_take {e n : PE} {q : Post} : wpE Γ (.take e n) q ε σ = wpE Γ e (fun x σ' => wpE Γ n (fun y σ'' => takeW x y q σ'') ε σ') ε σ := rfl
theorem e_meth {e : PE} {n : Nat} {args : PEs} {q : Post} : wpE Γ (.meth e n args) q ε σ = wpE Γ e (fun x σ' => (∃ a fs, x = .ref a ∧ σ' a = some (.inst Γ.cls fs)) ∧ wpEs Γ args (fun xs σ'' => Γ.fn (Γ.meth n) (x :: xs) q σ'') ε σ') ε σ := rfl
theorem e_bm {e : PE} {n : BM} {args : PEs} {q : Post} : wpE Γ (.bm e n args) q ε σ = wpE Γ e (fun x σ' => bmOn n x σ' ∧ wpEs Γ args (fun xs σ'' => bmW Γ n x xs q σ'') ε σ') ε σ := rfl
theorem e_comp {elt it : PE} {t : Nat} {c : PC} {q : Post} : wpE Γ (.comp elt t it c) q ε σ = wpE Γ it (fun v σ' => ∃ a src xs, v = .ref a ∧ look Γ σ' a = some src ∧ itemsOf src = some xs ∧ xs.length ≤ 1000 ∧
      goComp Γ (wpE Γ elt) (wpC Γ c) t a src (fun ys σ'' => ∀ l, New Γ σ'' l → q (.ref l) (σ''.set l (.list true ys))) xs [] (ε ++ [none]) σ') ε σ := rfl
theorem es_nil {q : List V → Sto → Prop} : wpEs Γ .nil q ε σ = q [] σ := rfl
theorem es_cons {e : PE} {r : PEs} {q : List V → Sto → Prop} : wpEs Γ (.cons e r) q ε σ = wpE Γ e (fun x σ' => wpEs Γ r (fun xs σ'' => q (x :: xs) σ'') ε σ') ε σ := rfl
theorem ds_nil {q : List (Int × V) → Sto → Prop} : wpDs Γ .nil q ε σ = q [] σ := rfl
theorem ds_cons {k e : PE} {r : PEs} {q : List (Int × V) → Sto → Prop} : wpDs Γ (.cons k (.cons e r)) q ε σ = wpE Γ k (fun y σ' => ∃ i, y = .int i ∧ wpE Γ e (fun x σ'' => wpDs Γ r (fun ps σ₃ => q ((i, x) :: ps) σ₃) ε σ'') ε σ') ε σ := rfl
theorem c_tru {q : Bool → Sto → Prop} : wpC Γ .tru q ε σ = q true σ := rfl
theorem c_not {c : PC} {q : Bool → Sto → Prop} : wpC Γ (.not c) q ε σ = wpC Γ c (fun t => q (!t)) ε σ := rfl
theorem c_and {a b : PC} {q : Bool → Sto → Prop} : wpC Γ (.and a b) q ε σ = wpC Γ a (fun t σ' => if t then wpC Γ b q ε σ' else q false σ') ε σ := rfl
theorem c_or {a b : PC} {q : Bool → Sto → Prop} : wpC Γ (.or a b) q ε σ = wpC Γ a (fun t σ' => if t then q true σ' else wpC Γ b q ε σ') ε σ := rfl
theorem c_cmp {op : Op} {a b : PE} {q : Bool → Sto → Prop} : wpC Γ (.cmp op a b) q ε σ = wpE Γ a (fun x σ' => wpE Γ b (fun y σ'' => opW Γ op x y q σ'') ε σ') ε σ := rfl
theorem c_chain {a b c : PE} {o1 o2 : Op} {q : Bool → Sto → Prop} : wpC Γ (.chain a o1 b o2 c) q ε σ = wpE Γ a (fun x σ' => wpE Γ b (fun y σ'' => opW Γ o1 x y (fun t σ₃ => if t then wpE Γ c (fun z σ₄ => opW Γ o2 y z q σ₄) ε σ₃ else q false σ₃) σ'') ε σ') ε σ := rfl
theorem c_val {e : PE} {q : Bool → Sto → Prop} : wpC Γ (.val e) q ε σ = wpE Γ e (fun x σ' => ∃ t, truV (look Γ σ') x = some t ∧ q t σ') ε σ := rfl
theorem t_var {i : Nat} {x : V} {q : PostE} : wpT Γ (.var i) x q ε σ = (i < ε.length ∧ q (ε.set i (some x)) σ) := rfl
theorem t_attr {e : PE} {i : Nat} {x : V} {q : PostE} : wpT Γ (.attr e i) x q ε σ = wpE Γ e (fun v σ' => ∃ a fs, v = .ref a ∧ σ' a = some (.inst Γ.cls fs) ∧ i ≤ fs.length ∧ q ε (σ'.set a (.inst Γ.cls (putF fs i x)))) ε σ := rfl
theorem t_sub {e i : PE} {x : V} {q : PostE} : wpT Γ (.sub e i) x q ε σ = wpE Γ e (fun v σ' => wpE Γ i (fun k σ'' => ∃ a j es ep, v = .ref a ∧ k = .int j ∧ σ'' a = some (.dict es ep) ∧ es.length ≤ 10000 ∧ ∀ ep', q ε (σ''.set a (.dict (putE j x es) ep'))) ε σ') ε σ := rfl
theorem t_tup {ts : PTs} {x : V} {q : PostE} : wpT Γ (.tup ts) x q ε σ = ∃ a xs, x = .ref a ∧ look Γ σ a = some (.tup xs) ∧ xs.length = ptsLen ts ∧ wpTs Γ ts xs q ε σ := rfl
theorem t_rev {is : List Nat} {x : V} {q : PostE} : wpT Γ (.rev is) x q ε σ = ∃ a xs, x = .ref a ∧ look Γ σ a = some (.tup xs) ∧ xs.length = is.length ∧ q (setAll is.reverse xs.reverse ε) σ := rfl
theorem ts_nil {xs : List V} {q : PostE} : wpTs Γ .nil xs q ε σ = (xs = [] ∧ q ε σ) := rfl
theorem ts_cons {t : PT} {r : PTs} {xs : List V} {q : PostE} : wpTs Γ (.cons t r) xs q ε σ = ∃ x xr, xs = x :: xr ∧ wpT Γ t x (fun ε' σ' => wpTs Γ r xr q ε' σ') ε σ := rfl
theorem s_fail {q : PostF} : wpS Γ .fail q ε σ = False := rfl
theorem s_expr {e : PE} {q : PostF} : wpS Γ (.expr e) q ε σ = wpE Γ e (fun x σ' => (∀ a, x ≠ .ref a) ∧ q .next ε σ') ε σ := rfl
theorem s_asg {t : PT} {e : PE} {q : PostF} : wpS Γ (.asg t e) q ε σ = wpE Γ e (fun x σ' => wpT Γ t x (q .next) ε σ') ε σ := rfl
theorem s_ret {e : PE} {q : PostF} : wpS Γ (.ret e) q ε σ = wpE Γ e (fun x σ' => q (.ret x) ε σ') ε σ := rfl
theorem s_ite {c : PC} {a b : PSs} {q : PostF} : wpS Γ (.ite c a b) q ε σ = wpC Γ c (fun t σ' => if t then wpSs Γ a q ε σ' else wpSs Γ b q ε σ') ε σ := rfl
theorem s_for {t : PT} {it : PE} {b : PSs} {q : PostF} : wpS Γ (.for_ t it b) q ε σ = wpE Γ it (fun v σ' => ∃ a src xs, v = .ref a ∧ look Γ σ' a = some src ∧ itemsOf src = some xs ∧ xs.length ≤ 100000 ∧ goFor Γ (wpT Γ t) (wpSs Γ b) a src q xs ε σ') ε σ := rfl
theorem s_while {c : PC} {b : PSs} {q : PostF} : wpS Γ (.while_ c b) q ε σ = ∃ n, goWhile (wpC Γ c) (wpSs Γ b) q n ε σ := rfl
theorem ss_nil_ {q : PostF} : wpSs Γ .nil q ε σ = q .next ε σ := rfl
theorem ss_cons_ {s : PS} {r : PSs} {q : PostF} : wpSs Γ (.cons s r) q ε σ = wpS Γ s (fun f ε' σ' => match f with
      | .next => wpSs Γ r q ε' σ'
      | f => q f ε' σ') ε σ := rfl
end
end Mine
end
section
open PySem
set_option Elab.async false
set_option maxRecDepth 100000
namespace Mine
@[reducible] noncomputable def b_init : PSs := .cons (.asg (.attr (.var 0) 0) (.var 1)) (.cons (.asg (.attr (.var 0) 1) (.var 2)) (.cons (.asg (.attr (.var 0) 2) (.var 3)) (.cons (.asg (.attr (.var 0) 3) (.var 4)) (.cons (.asg (.attr (.var 0) 4) (.int 1)) (.cons (.asg (.attr (.var 0) 5) (.bool false)) (.cons (.asg (.attr (.var 0) 6) (.bool true)) (.cons (.asg (.attr (.var 0) 7) (.int 0)) (.cons (.ite (.cmp .eq (.var 2) (.str "extend")) (.cons (.expr (.meth (.var 0) 0 (.cons (.tup (.cons (.str "sequential") .nil)) (.cons (.str "EXTEND") .nil)))) .nil) (.nil)) (.cons (.ite (.cmp .eq (.var 2) (.str "output")) (.cons (.expr (.bm (.var 1) .clear (.nil))) .nil) (.nil)) (.cons (.asg (.attr (.var 0) 8) (.ite (.and (.cmp .eq (.var 2) (.str "extend")) (.val (.var 1))) (.bi .max (.var 1)) (.int 0))) .nil))))))))))
@[reducible] noncomputable def b_need : PSs := .cons (.ite (.cmp .notIn (.attr (.var 0) 2) (.var 1)) (.cons (.fail) .nil) (.nil)) .nil
@[reducible] noncomputable def b_write : PSs := .cons (.asg (.attr (.var 0) 7) (.int 0)) (.cons (.ite (.cmp .eq (.attr (.var 0) 2) (.str "sequential")) (.cons (.ite (.cmp .notIn (.attr (.var 0) 1) (.tup (.cons (.str "output") (.cons (.str "extend") .nil)))) (.cons (.ret (.str "48")) .nil) (.nil)) (.cons (.asg (.var 2) (.add (.attr (.var 0) 8) (.int 1))) .nil)) (.cons (.ite (.cmp .notIn (.attr (.var 0) 1) (.tup (.cons (.str "output") (.cons (.str "i-o") .nil)))) (.cons (.ret (.str "48")) .nil) (.nil)) .nil)) (.cons (.ite (.or (.cmp .lt (.var 2) (.int 1)) (.chain (.int 0) .lt (.attr (.var 0) 3) .lt (.var 2))) (.cons (.ret (.str "24")) .nil) (.nil)) (.cons (.ite (.cmp .isIn (.var 2) (.attr (.var 0) 0)) (.cons (.ret (.str "22")) .nil) (.nil)) (.cons (.asg (.sub (.attr (.var 0) 0) (.var 2)) (.bi .bytes (.var 1))) (.cons (.asg (.attr (.var 0) 8) (.var 2)) (.cons (.ret (.str "00")) .nil))))))
@[reducible] noncomputable def b_law_by_order : PSs := .cons (.asg (.rev [3, 4]) (.tup (.cons (.dict (.cons (.int 9) (.cons (.bytes [101, 108, 100, 101, 114]) .nil))) (.cons (.list (.nil)) .nil)))) (.cons (.asg (.var 5) (.fn 158 (.cons (.var 3) (.cons (.str "output") (.cons (.str "sequential") (.cons (.var 2) .nil)))))) (.cons (.for_ (.var 6) (.upto (.var 0) (.var 1)) (.cons (.expr (.bm (.var 4) .append (.cons (.tup (.cons (.meth (.var 5) 1 (.cons (.var 6) .nil)) (.cons (.attr (.var 5) 8) .nil))) .nil))) .nil)) (.cons (.asg (.var 7) (.fn 158 (.cons (.var 3) (.cons (.str "extend") (.cons (.str "sequential") (.cons (.var 2) .nil)))))) (.cons (.for_ (.var 6) (.from_ (.var 0) (.var 1)) (.cons (.expr (.bm (.var 4) .append (.cons (.tup (.cons (.meth (.var 7) 1 (.cons (.var 6) .nil)) (.cons (.attr (.var 7) 8) .nil))) .nil))) .nil)) (.cons (.ret (.tup (.cons (.var 3) (.cons (.var 4) .nil)))) .nil)))))
@[reducible] noncomputable def b_law_by_hand : PSs := .cons (.asg (.rev [3, 4]) (.tup (.cons (.dict (.cons (.int 9) (.cons (.bytes [101, 108, 100, 101, 114]) .nil))) (.cons (.list (.nil)) .nil)))) (.cons (.asg (.var 5) (.fn 158 (.cons (.var 3) (.cons (.str "output") (.cons (.str "random") (.cons (.var 2) .nil)))))) (.cons (.for_ (.var 6) (.var 1) (.cons (.expr (.bm (.var 4) .append (.cons (.meth (.var 5) 1 (.cons (.sub (.var 0) (.var 6)) (.cons (.add (.var 6) (.int 1)) .nil))) .nil))) .nil)) (.cons (.ret (.tup (.cons (.var 3) (.cons (.var 4) .nil)))) .nil)))
@[reducible] noncomputable def b_law_orders_due : PSs := .cons (.asg (.rev [3, 4]) (.tup (.cons (.list (.nil)) (.cons (.int 0) .nil)))) (.cons (.for_ (.var 5) (.bi .range (.bi .len (.var 0))) (.cons (.ite (.chain (.int 0) .lt (.var 2) .lt (.add (.var 4) (.int 1))) (.cons (.expr (.bm (.var 3) .append (.cons (.tup (.cons (.str "24") (.cons (.var 4) .nil))) .nil))) .nil) (.cons (.asg (.var 4) (.add (.var 4) (.int 1))) (.cons (.expr (.bm (.var 3) .append (.cons (.tup (.cons (.str "00") (.cons (.var 4) .nil))) .nil))) .nil))) .nil)) (.cons (.ret (.tup (.cons (.var 3) (.cons (.var 4) .nil)))) .nil))
@[reducible] noncomputable def b_law_hands_due : PSs := .cons (.asg (.rev [3, 4]) (.tup (.cons (.list (.nil)) (.cons (.list (.nil)) .nil)))) (.cons (.for_ (.var 5) (.var 1) (.cons (.ite (.chain (.int 0) .lt (.var 2) .lt (.add (.var 5) (.int 1))) (.cons (.expr (.bm (.var 3) .append (.cons (.str "24") .nil))) .nil) (.cons (.ite (.cmp .isIn (.var 5) (.var 4)) (.cons (.expr (.bm (.var 3) .append (.cons (.str "22") .nil))) .nil) (.cons (.expr (.bm (.var 3) .append (.cons (.str "00") .nil))) (.cons (.expr (.bm (.var 4) .append (.cons (.var 5) .nil))) .nil))) .nil)) .nil)) (.cons (.ret (.tup (.cons (.var 3) (.cons (.var 4) .nil)))) .nil))
@[reducible] noncomputable def b_law_gaps_right : PSs := .cons (.asg (.var 2) (.dict .nil)) (.cons (.asg (.var 3) (.fn 158 (.cons (.var 2) (.cons (.str "i-o") (.cons (.str "dynamic") .nil))))) (.cons (.for_ (.var 4) (.var 0) (.cons (.expr (.meth (.var 3) 1 (.cons (.bi .bytes (.list (.cons (.var 4) .nil))) (.cons (.var 4) .nil)))) .nil)) (.cons (.asg (.var 5) (.bi .dict (.var 2))) (.cons (.asg (.var 6) (.fn 158 (.cons (.var 2) (.cons (.str "extend") (.cons (.str "sequential") .nil))))) (.cons (.asg (.var 7) (.list (.cons (.meth (.var 6) 1 (.cons (.var 1) .nil)) (.cons (.meth (.var 6) 1 (.cons (.add (.var 1) (.bytes [50])) .nil)) .nil)))) (.cons (.asg (.var 8) (.bi .dict (.var 5))) (.cons (.asg (.var 9) (.bi .max (.add (.list (.cons (.int 0) .nil)) (.var 0)))) (.cons (.asg (.tup (.cons (.sub (.var 8) (.add (.var 9) (.int 1))) (.cons (.sub (.var 8) (.add (.var 9) (.int 2))) .nil))) (.tup (.cons (.var 1) (.cons (.add (.var 1) (.bytes [50])) .nil)))) (.cons (.ret (.and (.cmp .eq (.var 7) (.list (.cons (.str "00") (.cons (.str "00") .nil)))) (.and (.cmp .eq (.var 2) (.var 8)) (.cmp .eq (.attr (.var 6) 8) (.add (.var 9) (.int 2)))))) .nil)))))))))
@[reducible] noncomputable def l1meths : List (PySem.Str × Addr) := [("need", 84), ("write", 127)]
@[reducible] noncomputable def l1stat : List (Addr × AO) := []
@[reducible] noncomputable def l1tab : List (Addr × TE) := [(77, .fn b_init 5 5 [.int 0]), (84, .fn b_need 3 3 []), (127, .fn b_write 3 3 [.int 0]), (176, .fn b_law_by_order 8 3 []), (183, .fn b_law_by_hand 7 3 []), (190, .fn b_law_orders_due 6 3 []), (197, .fn b_law_hands_due 6 3 []), (204, .fn b_law_gaps_right 10 2 []), (158, .cls 77)]
@[reducible] noncomputable def P1 : Px := ⟨fun a => l1stat.lookup a, 158, fun i => ((l1meths[i]?).map (·.2)).getD 0, fun a => l1tab.lookup a⟩
@[reducible] noncomputable def b_law : PSs := .cons (.ite (.cmp .ne (.fn 176 (.cons (.list (.cons (.bytes [97]) (.cons (.bytes []) (.cons (.bytes [99]) .nil)))) (.cons (.int 2) (.cons (.int 2) .nil)))) (.tup (.cons (.dict (.cons (.int 1) (.cons (.bytes [97]) (.cons (.int 2) (.cons (.bytes []) .nil))))) (.cons (.list (.cons (.tup (.cons (.str "00") (.cons (.int 1) .nil))) (.cons (.tup (.cons (.str "00") (.cons (.int 2) .nil))) (.cons (.tup (.cons (.str "24") (.cons (.int 2) .nil))) .nil)))) .nil)))) (.cons (.ret (.bool false)) .nil) (.nil)) (.cons (.ite (.or (.cmp .ne (.fn 183 (.cons (.list (.cons (.bytes [97]) (.cons (.bytes []) (.cons (.bytes [99]) .nil)))) (.cons (.list (.cons (.int 1) (.cons (.int 1) (.cons (.int 2) (.cons (.int 0) .nil))))) (.cons (.int 2) .nil)))) (.tup (.cons (.dict (.cons (.int 2) (.cons (.bytes []) (.cons (.int 1) (.cons (.bytes [97]) .nil))))) (.cons (.list (.cons (.str "00") (.cons (.str "22") (.cons (.str "24") (.cons (.str "00") .nil))))) .nil)))) (.not (.val (.fn 204 (.cons (.list (.cons (.int 2) (.cons (.int 5) .nil))) (.cons (.bytes [122]) .nil)))))) (.cons (.ret (.bool false)) .nil) (.nil)) (.cons (.asg (.var 2) (.comp (.bi .bytes (.comp (.take (.var 1) (.int 256)) 15 (.bi .range (.take (.var 1) (.int 3))) (.tru))) 14 (.bi .range (.take (.var 1) (.int 7))) (.tru))) (.cons (.asg (.rev [3, 4]) (.tup (.cons (.take (.var 1) (.add (.bi .len (.var 2)) (.int 1))) (.cons (.sub (.tup (.cons (.int 0) (.cons (.int 0) (.cons (.int 3) (.cons (.int 9) .nil))))) (.take (.var 1) (.int 4))) .nil)))) (.cons (.asg (.tup (.cons (.var 5) (.cons (.var 6) .nil))) (.fn 176 (.cons (.var 2) (.cons (.var 3) (.cons (.var 4) .nil))))) (.cons (.asg (.tup (.cons (.var 7) (.cons (.var 8) .nil))) (.fn 190 (.cons (.var 2) (.cons (.var 3) (.cons (.var 4) .nil))))) (.cons (.ite (.or (.cmp .ne (.var 6) (.var 7)) (.cmp .ne (.var 5) (.bi .dict (.comp (.tup (.cons (.add (.var 14) (.int 1)) (.cons (.sub (.var 2) (.var 14)) .nil))) 14 (.bi .range (.var 8)) (.tru))))) (.cons (.ret (.bool false)) .nil) (.nil)) (.cons (.asg (.rev [9, 10]) (.tup (.cons (.list (.nil)) (.cons (.bi .list (.bi .range (.bi .len (.var 2)))) .nil)))) (.cons (.while_ (.cmp .ne (.var 10) (.list (.nil))) (.cons (.expr (.bm (.var 9) .append (.cons (.bm (.var 10) .popL (.cons (.take (.var 1) (.bi .len (.var 10))) .nil)) .nil))) (.cons (.ite (.cmp .eq (.take (.var 1) (.int 4)) (.int 0)) (.cons (.expr (.bm (.var 9) .append (.cons (.sub (.var 9) (.take (.var 1) (.bi .len (.var 9)))) .nil))) .nil) (.nil)) .nil))) (.cons (.asg (.tup (.cons (.var 11) (.cons (.var 12) .nil))) (.fn 183 (.cons (.var 2) (.cons (.var 9) (.cons (.var 4) .nil))))) (.cons (.asg (.tup (.cons (.var 7) (.cons (.var 13) .nil))) (.fn 197 (.cons (.var 2) (.cons (.var 9) (.cons (.var 4) .nil))))) (.cons (.ite (.or (.cmp .ne (.var 12) (.var 7)) (.or (.cmp .ne (.var 11) (.var 5)) (.cmp .ne (.bi .sorted (.var 11)) (.bi .sorted (.comp (.add (.var 14) (.int 1)) 14 (.var 13) (.tru)))))) (.cons (.ret (.bool false)) .nil) (.nil)) (.cons (.ret (.fn 204 (.cons (.comp (.add (.int 1) (.take (.var 1) (.int 9))) 14 (.bi .range (.take (.var 1) (.int 5))) (.tru)) (.cons (.bi .bytes (.list (.cons (.take (.var 1) (.int 256)) .nil))) .nil)))) .nil))))))))))))
@[reducible] noncomputable def l1vs : List (PySem.Str × Kind) := [("script", .loc), ("take", .cell), ("rows", .cell), ("many", .loc), ("most", .loc), ("content", .loc), ("told", .loc), ("dues", .loc), ("last", .loc), ("order", .loc), ("left", .loc), ("other", .loc), ("answers", .loc), ("there", .loc)]
end Mine
end
section
open PySem
set_option Elab.async false
set_option maxRecDepth 100000
namespace Mine
variable {n : Nat} {σ σ' σ'' : Sto} {ε : Env0}
noncomputable def Keep (X : List Addr) (σ σ' : Sto) : Prop := ∀ a o, a ∉ X → σ a = some o → σ' a = some o
theorem Keep.refl (X : List Addr) (σ : Sto) : Keep X σ σ := fun _ _ _ e => e
theorem Keep.weak {X : List Addr} {σ σ' : Sto} (x : Keep [] σ σ') : Keep X σ σ' := fun a o _ e => x a o (fun h => nomatch h) e
theorem Keep.new {X : List Addr} {σ : Sto} {l : Addr} {o : AO} (h : σ l = none) : Keep X σ (σ.set l o) := fun a o' _ e => by
  rw [Sto.set_ne]; exact e
  intro z; subst z; rw [h] at e; cases e
theorem look_dyn {a : Addr} (h : P1.stat a = none) : look (P1.gx n) σ a = σ a := by
  unfold look
  show (match P1.stat a with | some o => some o | none => σ a) = _
  rw [h]
theorem intsOf_map' (ks : List Int) : intsOf (ks.map V.int) = some ks := by
  induction ks with
  | nil => rfl
  | cons k ks ih => show (intsOf (ks.map .int)).map (k :: ·) = _; rw [ih]; rfl
theorem keys_ints (es : List (Int × V)) : intsOf (es.map fun p => V.int p.1) = some (es.map (·.1)) := by
  have := intsOf_map' (es.map (·.1))
  rw [List.map_map] at this
  exact this
theorem Sto.set_set (σ : Sto) (a : Addr) (o o' : AO) : (σ.set a o).set a o' = σ.set a o' := by
  funext b; unfold Sto.set; by_cases h : b = a <;> simp [h]
theorem get_at {i : Nat} {x : Addr} {fs : List V} {y : V} {q : Post} (h0 : ε[0]? = some (some (.ref x))) (hx : σ x = some (.inst 158 fs)) (hi : fs[i]? = some y) (h : q y σ) : wpE (P1.gx n) (.attr (.var 0) i) q ε σ := ⟨.ref x, h0, x, fs, y, rfl, hx, hi, h⟩
theorem put_at {i : Nat} {x : Addr} {fs : List V} {y : V} {q : PostE} (h0 : ε[0]? = some (some (.ref x))) (hx : σ x = some (.inst 158 fs)) (hl : i ≤ fs.length) (h : q ε (σ.set x (.inst 158 (putF fs i y)))) : wpT (P1.gx n) (.attr (.var 0) i) y q ε σ := ⟨.ref x, h0, x, fs, rfl, hx, hl, h⟩
theorem keep_set {x : Addr} {o o' : AO} (_hx : σ x = some o) : Keep [x] σ (σ.set x o') := fun a o'' ha e => by
  rw [Sto.set_ne _ _ (by simpa using ha)]; exact e
theorem getE_of : ∀ {es : List (Int × V)} {k : Int}, k ∈ es.map (·.1) → ∃ y, getE k es = some y
  | p :: r, k, h => by
    unfold getE
    by_cases e : p.1 = k
    · exact ⟨p.2, by rw [if_pos e]⟩
    · rw [if_neg e]
      exact getE_of (by rcases List.mem_cons.mp h with z | z; exact absurd z.symm e; exact z)
noncomputable def keeps (X : List Addr) (a : Addr) : AO → Prop
  | .inst _ _ => False
  | .list _ _ => a ∉ X
  | .dict _ _ => a ∉ X
  | .taker _ => a ∉ X
  | _ => True
noncomputable def Kp (X : List Addr) (σ σ' : Sto) : Prop := (∀ a o, keeps X a o → σ a = some o → σ' a = some o) ∧ ∀ a, σ' a = none → σ a = none
theorem Kp.refl {X : List Addr} : Kp X σ σ := ⟨fun _ _ _ e => e, fun _ e => e⟩
theorem Kp.trans {X : List Addr} (x : Kp X σ σ') (y : Kp X σ' σ'') : Kp X σ σ'' := ⟨fun a o h e => y.1 a o h (x.1 a o h e), fun a e => x.2 a (y.2 a e)⟩
theorem keeps.mono {X Y : List Addr} (s : ∀ a ∈ X, a ∈ Y) {a : Addr} {o : AO} (h : keeps Y a o) : keeps X a o := by
  cases o <;> first | exact h | exact fun z => h (s _ z)
theorem Kp.mono {X Y : List Addr} (s : ∀ a ∈ X, a ∈ Y) (x : Kp X σ σ') : Kp Y σ σ' := ⟨fun a o h e => x.1 a o (h.mono s) e, x.2⟩
theorem Kp.weak {X : List Addr} (x : Kp [] σ σ') : Kp X σ σ' := x.mono (X := []) (fun _ h => nomatch h)
theorem set_none {l a : Addr} {o : AO} (h : (σ.set l o) a = none) : σ a = none := by
  by_cases e : a = l
  · rw [e, Sto.set_self] at h; cases h
  · rw [Sto.set_ne _ _ e] at h; exact h
theorem Kp.new {X : List Addr} {l : Addr} {o : AO} (h : σ l = none) : Kp X σ (σ.set l o) := by
  refine ⟨fun a o' _ e => ?_, fun _ => set_none⟩
  rw [Sto.set_ne]; exact e
  intro z; subst z; rw [h] at e; cases e
theorem Kp.put {X : List Addr} {l : Addr} {o o' : AO} (h : σ l = some o) (hk : ¬ keeps X l o) : Kp X σ (σ.set l o') := by
  refine ⟨fun a o'' k e => ?_, fun _ => set_none⟩
  rw [Sto.set_ne]; exact e
  intro z; subst z; rw [h] at e; cases e; exact hk k
theorem Kp.drop {X : List Addr} {l : Addr} (h : σ l = none) (x : Kp (l :: X) σ σ') : Kp X σ σ' := ⟨fun a o k e => x.1 a o (by
  have : a ≠ l := fun z => by rw [z, h] at e; cases e
  cases o <;> first | exact k | exact fun z => (List.mem_cons.mp z).elim this k) e, x.2⟩
theorem Keep.kpd {c : Addr} {es : List (Int × V)} {ep : Nat} {o' : AO} (h : Keep [c] σ σ') (hc : σ c = some (.dict es ep)) (hc' : σ' c = some o') : Kp [c] σ σ' := by
  refine ⟨fun a o k e => h a o (fun z => ?_) e, fun a e => ?_⟩
  · have z : a = c := by simpa using z
    subst z; rw [hc] at e; cases e; exact k (.head _)
  · cases e' : σ a with
    | none => rfl
    | some o =>
      by_cases z : a = c
      · subst z; rw [hc'] at e; cases e
      · have := h a o (by simpa using z) e'
        rw [e] at this; cases this
theorem Kp.tup {X : List Addr} (h : Kp X σ σ') {t : Addr} {xs : List V} (e : σ t = some (.tup xs)) : σ' t = some (.tup xs) := h.1 t _ True.intro e
theorem Kp.dict {X : List Addr} (h : Kp X σ σ') {c : Addr} {es : List (Int × V)} {ep : Nat} (e : σ c = some (.dict es ep)) (hX : c ∉ X := by exact List.not_mem_nil) : σ' c = some (.dict es ep) := h.1 c _ hX e
theorem Kp.list {X : List Addr} (h : Kp X σ σ') {c : Addr} {m : Bool} {xs : List V} (e : σ c = some (.list m xs)) (hX : c ∉ X := by exact List.not_mem_nil) : σ' c = some (.list m xs) := h.1 c _ hX e
theorem Kp.range {X : List Addr} (h : Kp X σ σ') {c : Addr} {k : Nat} (e : σ c = some (.range k)) : σ' c = some (.range k) := h.1 c _ True.intro e
theorem Kp.taker {X : List Addr} (h : Kp X σ σ') {c : Addr} {k : Nat} (e : σ c = some (.taker k)) (hX : c ∉ X := by exact List.not_mem_nil) : σ' c = some (.taker k) := h.1 c _ hX e
inductive It where
  | at (x : V)
  | tup (xs : List V)
noncomputable def atom : V → Bool
  | .int _ => true
  | .str _ => true
  | .bytes _ => true
  | .bool _ => true
  | _ => false
noncomputable def It.ok : It → Prop
  | .at x => atom x = true
  | .tup xs => ∀ x ∈ xs, atom x = true
noncomputable def ItAt (σ : Sto) (v : V) : It → Prop
  | .at x => v = x
  | .tup xs => ∃ t, v = .ref t ∧ σ t = some (.tup xs) ∧ P1.stat t = none
inductive Its (σ : Sto) : List V → List It → Prop
  | nil : Its σ [] []
  | cons {v : V} {i : It} {vs : List V} {is : List It} : ItAt σ v i → Its σ vs is → Its σ (v :: vs) (i :: is)
theorem ItAt.keep {X : List Addr} {v : V} {i : It} (h : ItAt σ v i) (k : Kp X σ σ') : ItAt σ' v i := by
  cases i with
  | «at» x => exact h
  | tup xs => obtain ⟨t, a, b, c⟩ := h; exact ⟨t, a, k.tup b, c⟩
theorem Its.keep {X : List Addr} {vs : List V} {is : List It} (h : Its σ vs is) (k : Kp X σ σ') : Its σ' vs is := by
  induction h with
  | nil => exact .nil
  | cons a _ ih => exact .cons (a.keep k) ih
theorem Its.append {vs ws : List V} {is js : List It} (h : Its σ vs is) (h' : Its σ ws js) : Its σ (vs ++ ws) (is ++ js) := by
  induction h with
  | nil => exact h'
  | cons a _ ih => exact .cons a ih
theorem Its.snoc {vs : List V} {is : List It} {v : V} {i : It} (h : Its σ vs is) (h' : ItAt σ v i) : Its σ (vs ++ [v]) (is ++ [i]) := h.append (.cons h' .nil)
theorem Its.length {vs : List V} {is : List It} (h : Its σ vs is) : vs.length = is.length := by
  induction h with
  | nil => rfl
  | cons _ _ ih => simp [ih]
theorem eq_atom {L : Addr → Option AO} {m : Nat} {x : V} (h : atom x = true) : eqV L m x x = some true := by
  cases x <;> first | (cases m <;> simp [eqV]; done) | cases h
theorem allEq_atoms {L : Addr → Option AO} {m : Nat} : ∀ {xs : List V}, (∀ x ∈ xs, atom x = true) → allEq (eqV L m) xs xs = some true
  | [], _ => rfl
  | x :: xs, h => by
    unfold allEq
    rw [eq_atom (h x (.head _)), allEq_atoms fun y hy => h y (.tail _ hy)]
    rfl
theorem allEq_its {vs : List V} {is : List It} (h : Its σ vs is) : ∀ {ws : List V}, Its σ ws is → (∀ i ∈ is, i.ok) → allEq (eqV (look (P1.gx n) σ) 3) vs ws = some true := by
  induction h with
  | nil => intro ws h2 _; cases h2; rfl
  | @cons v i vs is a _ ih =>
    intro ws h2 ho
    cases h2 with
    | @cons w _ ws _ b h2 =>
      have e : eqV (look (P1.gx n) σ) 3 v w = some true := by
        have := ho i (.head _)
        cases i with
        | «at» x =>
          have a : v = x := a
          have b : w = x := b
          rw [a, b]; exact eq_atom this
        | tup xs =>
          obtain ⟨t, rfl, a1, a2⟩ := a
          obtain ⟨t', rfl, b1, b2⟩ := b
          unfold eqV
          rw [look_dyn a2, look_dyn b2, a1, b1]
          dsimp only
          rw [if_pos rfl]
          exact allEq_atoms this
      unfold allEq
      rw [e, ih h2 fun j hj => ho j (.tail _ hj)]
      rfl
theorem eq_lists {l m : Addr} {b b' : Bool} {vs ws : List V} {is : List It} (hl : σ l = some (.list b vs)) (sl : P1.stat l = none) (hm : σ m = some (.list b' ws)) (sm : P1.stat m = none) (h : Its σ vs is) (h' : Its σ ws is) (ho : ∀ i ∈ is, i.ok) :
    eqT (look (P1.gx n) σ) (.ref l) (.ref m) = some true := by
  unfold eqT
  dsimp only
  rw [look_dyn sl, look_dyn sm, hl, hm]
  dsimp only
  unfold eqV
  rw [look_dyn sl, look_dyn sm, hl, hm]
  dsimp only
  rw [if_pos (by rw [h.length, h'.length]), allEq_its h h' ho]
theorem str_eq {a b : PySem.Str} {Γ : Gx} {q : Bool → Sto → Prop} (h : q (a == b) σ) : opW Γ .eq (.str a) (.str b) q σ := ⟨_, rfl, h⟩
structure Good (es : List (Int × V)) : Prop where
  nodup : (es.map (·.1)).Nodup
  pos : ∀ k ∈ es.map (·.1), 0 < k
  few : es.length ≤ 60
theorem in_dict {c : Addr} {es : List (Int × V)} {ep : Nat} {k : Int} {q : Bool → Sto → Prop} (hc : σ c = some (.dict es ep)) (hs : P1.stat c = none) (h : q (getE k es).isSome σ) : opW (P1.gx n) .isIn (.int k) (.ref c) q σ := by
  refine ⟨_, ?_, h⟩
  unfold inV
  dsimp only
  rw [look_dyn hs, hc]
noncomputable def Oct (es : List (Int × V)) : Prop := ∀ p ∈ es, ∃ b, p.2 = .bytes b
noncomputable def keys (es : List (Int × V)) : List Int := es.map (·.1)
theorem getE_none : ∀ {es : List (Int × V)} {k : Int}, k ∉ keys es → getE k es = none
  | [], _, _ => rfl
  | p :: r, k, h => by
    unfold getE
    have h : k ≠ p.1 ∧ k ∉ keys r := ⟨fun z => h (z ▸ List.mem_cons_self), fun z => h (List.mem_cons_of_mem _ z)⟩
    rw [if_neg (Ne.symm h.1)]
    exact getE_none h.2
theorem isSome_getE {es : List (Int × V)} {k : Int} : (getE k es).isSome = true ↔ k ∈ keys es := by
  constructor
  · intro h
    refine Classical.byContradiction fun z => ?_
    rw [getE_none z] at h; cases h
  · intro h
    obtain ⟨y, hy⟩ := getE_of h
    rw [hy]; rfl
theorem getE_self : ∀ {es : List (Int × V)}, (keys es).Nodup → ∀ {p : Int × V}, p ∈ es → getE p.1 es = some p.2
  | q :: r, hn, p, hp => by
    have hn := List.nodup_cons.mp (show (q.1 :: keys r).Nodup from hn)
    unfold getE
    rcases List.mem_cons.mp hp with e | e
    · subst e; rw [if_pos rfl]
    · have : q.1 ≠ p.1 := fun z => hn.1 (by rw [z]; exact List.mem_map_of_mem e)
      rw [if_neg this]; exact getE_self hn.2 e
theorem dictEq_self {f : V → V → Option Bool} {fs : List (Int × V)} : ∀ {es : List (Int × V)}, (∀ p ∈ es, getE p.1 fs = some p.2 ∧ f p.2 p.2 = some true) → dictEq f fs es = some true
  | [], _ => rfl
  | p :: r, h => by
    unfold dictEq
    rw [(h p (.head _)).1]
    dsimp only
    rw [(h p (.head _)).2, dictEq_self fun q hq => h q (.tail _ hq)]
    rfl
theorem eq_dicts {a b : Addr} {es : List (Int × V)} {ep ep' : Nat} (g : Good es) (o : Oct es) (ha : σ a = some (.dict es ep)) (sa : P1.stat a = none) (hb : σ b = some (.dict es ep')) (sb : P1.stat b = none) : eqT (look (P1.gx n) σ) (.ref a) (.ref b) = some true := by
  unfold eqT
  dsimp only
  rw [look_dyn sa, look_dyn sb, ha, hb]
  dsimp only
  rw [if_pos rfl]
  refine dictEq_self fun p hp => ⟨getE_self g.nodup hp, ?_⟩
  obtain ⟨z, hz⟩ := o p hp
  rw [hz]; exact eq_atom rfl
theorem app_at {i : Nat} {l : Addr} {e : PE} {q : PostF} {m : Nat} {vs : List V} (hi : ε[i]? = some (some (.ref l))) (hl : σ l = some (.list true vs))
    (h : wpE (P1.gx m) e (fun y σ' => ∃ xs, σ' l = some (.list true xs) ∧ xs.length ≤ 10000 ∧ ((∀ a, V.none ≠ .ref a) ∧ q .next ε (σ'.set l (.list true (xs ++ [y]))))) ε σ) : wpS (P1.gx m) (.expr (.bm (.var i) .append (.cons e .nil))) q ε σ := by
  rw [s_expr, e_bm, e_var]
  refine ⟨.ref l, hi, ⟨vs, hl⟩, ?_⟩
  rw [es_cons]
  exact h
theorem get_v {i f : Nat} {x : Addr} {fs : List V} {y : V} {q : Post} (h0 : ε[i]? = some (some (.ref x))) (hx : σ x = some (.inst 158 fs)) (hi : fs[f]? = some y) (h : q y σ) : wpE (P1.gx n) (.attr (.var i) f) q ε σ := ⟨.ref x, h0, x, fs, y, rfl, hx, hi, h⟩
theorem e_fnW {m : Nat} {f : Addr} {args : PEs} {q : Post} : wpE (P1.gx m) (.fn f args) q ε σ = wpEs (P1.gx m) args (fun xs σ' => fnW P1 m f xs q σ') ε σ := rfl
theorem ItAt.of {t : Addr} {xs : List V} (h : σ t = some (.tup xs)) (s : P1.stat t = none) : ItAt σ (.ref t) (.tup xs) := ⟨t, rfl, h, s⟩
theorem sub_list {Γ : Gx} {a : Addr} {m : Bool} {xs : List V} {k : Int} {y : V} {q : Post} (ha : look Γ σ a = some (.list m xs)) (h0 : 0 ≤ k) (h1 : k ≤ 1000) (hy : xs[k.toNat]? = some y) (h : q y σ) : subW Γ (.ref a) (.int k) q σ := by
  unfold subW
  dsimp only
  rw [ha]
  exact ⟨h0, by unfold big; omega, y, hy, h⟩
theorem bi_dict {Γ : Gx} {c : Addr} {es : List (Int × V)} {ep : Nat} {q : Post} (hc : look Γ σ c = some (.dict es ep)) (hl : es.length ≤ 1000) (h : ∀ l, New Γ σ l → ∀ ep, q (.ref l) (σ.set l (.dict es ep))) : biW Γ .dict (.ref c) q σ := by
  unfold biW
  dsimp only
  rw [hc]
  exact ⟨hl, h⟩
theorem bi_sorted {Γ : Gx} {c : Addr} {es : List (Int × V)} {ep : Nat} {q : Post} (hc : look Γ σ c = some (.dict es ep)) (hl : es.length ≤ 60) (h : ∀ l, New Γ σ l → q (.ref l) (σ.set l (.list true ((sortI (keys es)).map .int)))) : biW Γ .sorted (.ref c) q σ :=
  ⟨_, _, _, hc, rfl, (fun _ => nofun), (fun _ => nofun), keys_ints es, by rw [List.length_map]; exact hl, h⟩
theorem bi_len {Γ : Gx} {c : Addr} {m : Bool} {xs : List V} {q : Post} (hc : look Γ σ c = some (.list m xs)) (h : q (.int xs.length) σ) : biW Γ .len (.ref c) q σ :=
  ⟨_, _, hc, rfl, (fun _ => nofun), (fun _ => nofun), h⟩
theorem int_eq {a b : Int} {Γ : Gx} {q : Bool → Sto → Prop} (h : q (a == b) σ) : opW Γ .eq (.int a) (.int b) q σ := ⟨_, rfl, h⟩
theorem take_at {f : Addr} {k : Nat} {lim : Int} {q : Post} (e1 : ε[1]? = some (some (.ref f))) (hf : σ f = some (.taker k)) (hk : k < 400) (h0 : 0 < lim) (h1 : lim ≤ 1000) (h : ∀ r : Int, 0 ≤ r → r < lim → q (.int r) (σ.set f (.taker (k + 1)))) : wpE (P1.gx n) (.take (.var 1) (.int lim)) q ε σ := by
  rw [e_take, e_var]
  refine ⟨.ref f, e1, ?_⟩
  rw [e_int]
  exact ⟨k, hf, hk, h0, h1, h⟩
theorem octets_ok : ∀ {bs : List Int}, (∀ b ∈ bs, 0 ≤ b ∧ b < 256) → ∃ b8, octets bs = some b8 ∧ b8.length = bs.length
  | [], _ => ⟨[], rfl, rfl⟩
  | b :: bs, h => by
    obtain ⟨b8, e, l⟩ := octets_ok (bs := bs) fun b hb => h b (.tail _ hb)
    refine ⟨UInt8.ofNat b.toNat :: b8, ?_, by simp [l]⟩
    unfold octets
    rw [if_pos (h b (.head _)), e]
    rfl
theorem comp_takes {f a : Addr} {N L : Nat} {q : List V → Sto → Prop} (hL : 1 < L) (hsa : P1.stat a = none) : ∀ (xs : List V) (ε : Env0) (acc : List V) (k : Nat) (τ : Sto), ε[1]? = some (some (.ref f)) → τ f = some (.taker k) → k + xs.length < 400 → τ a = some (.range N) →
    (∀ τ' (bs : List Int), Kp [f] τ τ' → τ' f = some (.taker (k + xs.length)) → (∀ b ∈ bs, 0 ≤ b ∧ b < 256) → bs.length = xs.length → q (acc ++ bs.map .int) τ') →
    goComp (P1.gx n) (wpE (P1.gx n) (.take (.var 1) (.int 256))) (wpC (P1.gx n) .tru) L a (.range N) q xs acc ε τ
  | [], ε, acc, k, τ, e1, hf, hk, ha, h => ⟨(look_dyn hsa).trans ha, by simpa using h τ [] Kp.refl hf (fun b hb => nomatch hb) rfl⟩
  | x :: xs, ε, acc, k, τ, e1, hf, hk, ha, h => by
    have e1' : (ε.set L (some x))[1]? = some (some (.ref f)) := by rw [List.getElem?_set_ne (by omega)]; exact e1
    refine ⟨(look_dyn hsa).trans ha, ?_⟩
    simp only [List.length_cons] at hk
    rw [c_tru, if_pos rfl]
    refine take_at e1' hf (by omega) (by decide) (by decide) fun r r0 r1 => ?_
    have k1 : Kp [f] τ (τ.set f (.taker (k + 1))) := Kp.put hf (by simp [keeps])
    refine comp_takes hL hsa xs _ _ (k + 1) _ e1' (Sto.set_self _ _ _) (by omega) (k1.range ha) fun τ' bs k2 h2 hb hl => ?_
    have := h τ' (r :: bs) (k1.trans k2) (by rw [h2, List.length_cons]; congr 2; omega) (fun b hb' => by
      rcases List.mem_cons.mp hb' with rfl | z
      · exact ⟨r0, r1⟩
      · exact hb b z) (by simp [hl])
    rw [List.append_assoc]
    exact this
theorem ne_nil {i : Nat} {s : Addr} {m : Bool} {xs : List V} {q : Bool → Sto → Prop} (hi : ε[i]? = some (some (.ref s))) (hs : σ s = some (.list m xs)) (ss : P1.stat s = none) (h : ∀ σ', Kp [] σ σ' → q (!xs.isEmpty) σ') : wpC (P1.gx n) (.cmp .ne (.var i) (.list .nil)) q ε σ := by
  rw [c_cmp, e_var]
  refine ⟨.ref s, hi, ?_⟩
  rw [e_list, es_nil]
  intro l hl
  have k1 : Kp [] σ (σ.set l (.list true [])) := Kp.new hl.1
  have hs1 := k1.list hs
  have hl1 := Sto.set_self σ l (.list true [])
  refine ⟨xs.isEmpty, ?_, h _ k1⟩
  generalize σ.set l (.list true []) = σ1 at *
  unfold eqT
  dsimp only
  rw [look_dyn ss, look_dyn hl.2, hs1, hl1]
  dsimp only
  unfold eqV
  rw [look_dyn ss, look_dyn hl.2, hs1, hl1]
  dsimp only
  cases xs with
  | nil => rw [if_pos rfl]; rfl
  | cons x r => rw [if_neg (by simp)]; rfl
end Mine
end
section
open PySem
set_option Elab.async false
set_option maxRecDepth 100000
namespace Mine
variable {n : Nat} {σ σ' : Sto} {ε : Env0}
structure Fil where
  mode : PySem.Str
  access : PySem.Str
  most : Int
  place : Int
  behind : Bool
  valid : Bool
  last : Int
  number : Int
noncomputable def Fil.vs (F : Fil) (c : Addr) : List V := [.ref c, .str F.mode, .str F.access, .int F.most, .int F.place, .bool F.behind, .bool F.valid, .int F.last, .int F.number]
noncomputable def IsF (σ : Sto) (x c : Addr) (F : Fil) : Prop := σ x = some (.inst 158 (F.vs c))
theorem IsF.ne_list {x c l : Addr} {F : Fil} {m : Bool} {vs : List V} (h : IsF σ x c F) (hl : σ l = some (.list m vs)) : x ≠ l := fun e => by
  unfold IsF at h
  rw [e, hl] at h; cases h
theorem IsF.ne_dict {x c d : Addr} {F : Fil} {es : List (Int × V)} {ep : Nat} (h : IsF σ x c F) (hl : σ d = some (.dict es ep)) : x ≠ d := fun e => by
  unfold IsF at h
  rw [e, hl] at h; cases h
noncomputable def Fil.fresh (mode access : PySem.Str) (most N : Int) : Fil := ⟨mode, access, most, 1, false, true, 0, N⟩
noncomputable def maxK : List Int → Int
  | [] => 0
  | k :: ks => ks.foldl max k
noncomputable def iniN (mode : PySem.Str) (es : List (Int × V)) : Int := if (mode == ("extend" : PySem.Str)) = true then maxK (keys es) else 0
theorem sp_needG {x t : Addr} {fs : List V} {acc what : PySem.Str} {q : Post} (hx : σ x = some (.inst 158 fs)) (h2 : fs[2]? = some (.str acc)) (hin : inV (look (P1.gx n) σ) (.str acc) (.ref t) = some true) (h : q .none σ) :
    fnW P1 (n + 1) 84 [.ref x, .ref t, .str what] q σ := by
  refine ⟨_, rfl, ?_⟩
  show wpSs (P1.gx n) b_need _ _ _
  rw [ss_cons_, s_ite, c_cmp, e_attr, e_var]
  refine ⟨.ref x, rfl, x, _, _, rfl, hx, h2, ?_⟩
  rw [e_var]
  exact ⟨.ref t, rfl, true, hin, h⟩
theorem sp_init {x c : Addr} {es : List (Int × V)} {ep : Nat} {mode access : PySem.Str} {most : Int} {xs : List V} {q : Post} (hxs : fillA 5 [.int 0] xs = some [.ref x, .ref c, .str mode, .str access, .int most]) (hx : σ x = some (.inst 158 [])) (hc : σ c = some (.dict es ep)) (hz : es.length ≤ 60)
    (he : (mode == ("extend" : PySem.Str)) = true → access = "sequential")
    (h : ∀ σ' ep', IsF σ' x c (Fil.fresh mode access most (iniN mode es)) → σ' c = some (.dict (if (mode == ("output" : PySem.Str)) = true then [] else es) ep') → Keep [x, c] σ σ' → q .none σ') : fnW P1 (n + 2) 77 xs q σ := by
  have ne : c ≠ x := fun z => by rw [z] at hc; rw [hx] at hc; cases hc
  refine ⟨_, hxs, ?_⟩
  show wpSs (P1.gx (n + 1)) b_init _ _ _
  generalize hε : ([some (.ref x), some (.ref c), some (.str mode), some (.str access), some (.int most)] : Env0) = ε at *
  show wpSs (P1.gx (n + 1)) b_init _ ([some (.ref x), some (.ref c), some (.str mode), some (.str access), some (.int most)] : Env0) σ
  rw [hε]
  have v0 : ε[0]? = some (some (.ref x)) := by rw [← hε]; rfl
  have v1 : ε[1]? = some (some (.ref c)) := by rw [← hε]; rfl
  have v2 : ε[2]? = some (some (.str mode)) := by rw [← hε]; rfl
  have v3 : ε[3]? = some (some (.str access)) := by rw [← hε]; rfl
  have v4 : ε[4]? = some (some (.int most)) := by rw [← hε]; rfl
  clear hε
  rw [ss_cons_, s_asg, e_var]
  refine ⟨_, v1, put_at v0 hx (Nat.zero_le _) ?_⟩
  dsimp only
  rw [ss_cons_, s_asg, e_var]
  refine ⟨_, v2, put_at v0 (Sto.set_self _ _ _) (by simp [putF]) ?_⟩
  dsimp only
  rw [ss_cons_, s_asg, e_var]
  refine ⟨_, v3, put_at v0 (Sto.set_self _ _ _) (by simp [putF]) ?_⟩
  dsimp only
  rw [ss_cons_, s_asg, e_var]
  refine ⟨_, v4, put_at v0 (Sto.set_self _ _ _) (by simp [putF]) ?_⟩
  dsimp only
  rw [ss_cons_, s_asg, e_int]
  refine put_at v0 (Sto.set_self _ _ _) (by simp [putF]) ?_
  dsimp only
  rw [ss_cons_, s_asg, e_bool]
  refine put_at v0 (Sto.set_self _ _ _) (by simp [putF]) ?_
  dsimp only
  rw [ss_cons_, s_asg, e_bool]
  refine put_at v0 (Sto.set_self _ _ _) (by simp [putF]) ?_
  dsimp only
  rw [ss_cons_, s_asg, e_int]
  refine put_at v0 (Sto.set_self _ _ _) (by simp [putF]) ?_
  simp only [Sto.set_set]
  have hx1 : (σ.set x (.inst 158 (putF (putF (putF (putF (putF (putF (putF (putF [] 0 (.ref c)) 1 (.str mode)) 2 (.str access)) 3 (.int most)) 4 (.int 1)) 5 (.bool false)) 6 (.bool true)) 7 (.int 0)))) x = some (.inst 158 [.ref c, .str mode, .str access, .int most, .int 1, .bool false, .bool true, .int 0]) := Sto.set_self _ _ _
  generalize hτ : σ.set x (.inst 158 (putF (putF (putF (putF (putF (putF (putF (putF [] 0 (.ref c)) 1 (.str mode)) 2 (.str access)) 3 (.int most)) 4 (.int 1)) 5 (.bool false)) 6 (.bool true)) 7 (.int 0))) = τ at *
  have kτ : Keep [x] σ τ := hτ ▸ keep_set hx
  have fin : ∀ τ' ep', Keep [c] τ τ' → τ' c = some (.dict (if (mode == ("output" : PySem.Str)) = true then [] else es) ep') → ∀ N : Int, N = iniN mode es → wpT (P1.gx (n + 1)) (.attr (.var 0) 8) (.int N) (fun ε' σ' => wpSs (P1.gx (n + 1)) .nil (retW q) ε' σ') ε τ' := by
    rintro τ' ep' k hce _ rfl
    have hx2 := k x _ (by simpa using Ne.symm ne) hx1
    refine put_at v0 hx2 (by simp) ?_
    rw [ss_nil_]
    have kx : Keep [x] τ' (τ'.set x (.inst 158 (putF [.ref c, .str mode, .str access, .int most, .int 1, .bool false, .bool true, .int 0] 8 (.int (iniN mode es))))) := keep_set hx2
    refine h _ ep' ?_ (kx c _ (by simpa using ne) hce) fun a o ha e => ?_
    · show (Sto.set _ x _) x = _
      rw [Sto.set_self]; rfl
    · simp only [List.mem_cons, List.not_mem_nil, or_false, not_or] at ha
      exact kx a o (by simpa using ha.1) (k a o (by simpa using ha.2) (kτ a o (by simpa using ha.1) e))
  have out : ∀ τ', Keep [] τ τ' → wpSs (P1.gx (n + 1)) (.cons (.ite (.cmp .eq (.var 2) (.str "output")) (.cons (.expr (.bm (.var 1) .clear .nil)) .nil) .nil) (.cons (.asg (.attr (.var 0) 8) (.ite (.and (.cmp .eq (.var 2) (.str "extend")) (.val (.var 1))) (.bi .max (.var 1)) (.int 0))) .nil)) (retW q) ε τ' := by
    intro τ' k
    have hc2 : τ' c = some (.dict es ep) := k c _ (fun h => nomatch h) (kτ c _ (by simpa using ne) hc)
    rw [ss_cons_, s_ite, c_cmp, e_var]
    refine ⟨_, v2, ?_⟩
    rw [e_str]
    refine str_eq ?_
    cases hm : (mode == ("output" : PySem.Str)) with
    | true =>
      have hme : (mode == ("extend" : PySem.Str)) = false := by
        have e1 : mode = "output" := beq_iff_eq.mp hm
        rw [e1]; decide +kernel
      rw [if_pos rfl, ss_cons_, s_expr, e_bm, e_var]
      refine ⟨_, v1, ⟨es, ep, hc2⟩, ?_⟩
      rw [es_nil]
      refine ⟨es, ep, hc2, fun ep' => ⟨(fun _ => nofun), ?_⟩⟩
      rw [ss_nil_]
      dsimp only
      rw [ss_cons_, s_asg, e_ite, c_and, c_cmp, e_var]
      refine ⟨_, v2, ?_⟩
      rw [e_str]
      refine str_eq ?_
      rw [hme]
      dsimp only
      rw [if_neg (by decide), if_neg (by decide), e_int]
      exact fin _ ep' (fun a o ha e => by rw [Sto.set_ne _ _ (by simpa using ha)]; exact k a o (fun h => nomatch h) e) (by rw [Sto.set_self, if_pos hm]) 0 (by unfold iniN; rw [if_neg (by rw [hme]; decide)])
    | false =>
      have hc3 : τ' c = some (.dict (if (mode == ("output" : PySem.Str)) = true then [] else es) ep) := by rw [if_neg (by rw [hm]; decide)]; exact hc2
      rw [if_neg (by decide), ss_nil_]
      dsimp only
      rw [ss_cons_, s_asg, e_ite, c_and, c_cmp, e_var]
      refine ⟨_, v2, ?_⟩
      rw [e_str]
      refine str_eq ?_
      dsimp only
      cases hme : (mode == ("extend" : PySem.Str)) with
      | false =>
        rw [if_neg (by decide), if_neg (by decide), e_int]
        exact fin τ' ep k.weak hc3 0 (by unfold iniN; rw [if_neg (by rw [hme]; decide)])
      | true =>
        rw [if_pos rfl, c_val, e_var]
        refine ⟨_, v1, !es.isEmpty, ?_, ?_⟩
        · show truV (look (P1.gx (n + 1)) τ') (.ref c) = _
          unfold truV
          dsimp only
          rw [look_dyn rfl, hc2]
        · cases es with
          | nil =>
            rw [if_neg (by decide), e_int]
            exact fin τ' ep k.weak hc3 0 (by unfold iniN; rw [if_pos hme]; rfl)
          | cons p r =>
            rw [if_pos (by simp), e_bi, e_var]
            refine ⟨_, v1, _, _, p.1, r.map (·.1), (look_dyn rfl).trans hc2, rfl, (fun _ => nofun), (fun _ => nofun), keys_ints (p :: r), by rw [List.length_map]; simp at hz; omega, fin τ' ep k.weak hc3 _ (by unfold iniN; rw [if_pos hme]; rfl)⟩
  rw [ss_cons_, s_ite, c_cmp, e_var]
  refine ⟨_, v2, ?_⟩
  rw [e_str]
  refine str_eq ?_
  cases hme : (mode == ("extend" : PySem.Str)) with
  | false =>
    rw [if_neg (by decide), ss_nil_]
    exact out τ (Keep.refl _ _)
  | true =>
    rw [if_pos rfl, ss_cons_, s_expr, e_meth, e_var]
    refine ⟨_, v0, ⟨x, _, rfl, hx1⟩, ?_⟩
    rw [es_cons, e_tup, es_cons, e_str, es_nil]
    intro l hl
    rw [es_cons, e_str, es_nil]
    have k1 : Keep [] τ (τ.set l (.tup [.str "sequential"])) := Keep.new hl.1
    refine sp_needG (k1 x _ (fun h => nomatch h) hx1) rfl ?_ ⟨fun _ => nofun, ?_⟩
    · unfold inV
      dsimp only
      rw [look_dyn rfl, Sto.set_self, he hme]
      decide +kernel
    · rw [ss_nil_]
      exact out _ k1
theorem sp_file {c : Addr} {es : List (Int × V)} {ep : Nat} {mode access : PySem.Str} {most : Int} {ys : List V} {q : Post} (hys : ∀ x : Addr, fillA 5 [.int 0] (.ref x :: ys) = some [.ref x, .ref c, .str mode, .str access, .int most]) (hc : σ c = some (.dict es ep)) (hz : es.length ≤ 60) (he : (mode == ("extend" : PySem.Str)) = true → access = "sequential")
    (h : ∀ σ' x ep', IsF σ' x c (Fil.fresh mode access most (iniN mode es)) → σ' c = some (.dict (if (mode == ("output" : PySem.Str)) = true then [] else es) ep') → Kp [c] σ σ' → σ x = none → q (.ref x) σ') : fnW P1 (n + 3) 158 ys q σ := by
  intro l dx hl hdx hne
  have e0 : ∀ a o, σ a = some o → ((σ.set dx (.priv l)).set l (.inst P1.cls [])) a = some o := fun a o e => by
    rw [Sto.set_ne _ _ (fun z => by rw [z, hl.1] at e; cases e), Sto.set_ne _ _ (fun z => by rw [z, hdx.1] at e; cases e)]; exact e
  refine sp_init (hys l) (Sto.set_self _ _ _) (e0 _ _ hc) hz he fun σ' ep' h1 h2 h3 => ⟨rfl, h σ' l ep' h1 h2 ?_ hl.1⟩
  refine Keep.kpd (fun a o ha e => h3 a o (fun z => ?_) (e0 a o e)) hc h2
  simp only [List.mem_cons, List.not_mem_nil, or_false] at z ha
  rcases z with z | z
  · rw [z, hl.1] at e; cases e
  · exact ha z
noncomputable def wrJ (F : Fil) (k : Int) : Int := if (F.access == ("sequential" : PySem.Str)) = true then F.number + 1 else k
@[reducible] noncomputable def wrBad (F : Fil) (k : Int) : Prop := wrJ F k < 1 ∨ (0 < F.most ∧ F.most < wrJ F k)
noncomputable def wrt (F : Fil) (es : List (Int × V)) (k : Int) (b : Array UInt8) : Fil × List (Int × V) × PySem.Str :=
  if wrBad F k then ({ F with last := 0 }, es, "24") else if (getE (wrJ F k) es).isSome = true then ({ F with last := 0 }, es, "22") else ({ F with last := 0, number := wrJ F k }, putE (wrJ F k) (.bytes b) es, "00")
noncomputable def canW (F : Fil) : Prop := (F.access = "sequential" ∧ (F.mode = "output" ∨ F.mode = "extend")) ∨ ((F.access = "random" ∨ F.access = "dynamic") ∧ (F.mode = "output" ∨ F.mode = "i-o"))
theorem two_in {a s1 s2 : PySem.Str} {q : Bool → Sto → Prop} {x c : Addr} {F : Fil} (h0 : ε[0]? = some (some (.ref x))) (hx : IsF σ x c F) (ha : F.mode = a) (hin : a = s1 ∨ a = s2) (h : ∀ σ', Kp [] σ σ' → IsF σ' x c F → q false σ') : wpC (P1.gx n) (.cmp .notIn (.attr (.var 0) 1) (.tup (.cons (.str s1) (.cons (.str s2) .nil)))) q ε σ := by
  rw [c_cmp]
  refine get_at h0 hx rfl ?_
  rw [e_tup, es_cons, e_str, es_cons, e_str, es_nil]
  intro l hl
  refine ⟨true, ?_, h _ (Kp.new hl.1) (Keep.new (X := []) hl.1 x _ (fun z => nomatch z) hx)⟩
  unfold inV
  dsimp only
  rw [look_dyn rfl, Sto.set_self, ha]
  show some ((s1 == a) || ((s2 == a) || false)) = some true
  rcases hin with rfl | rfl
  · simp
  · simp
theorem sp_write {x c : Addr} {F : Fil} {es : List (Int × V)} {ep : Nat} {k : Int} {b : Array UInt8} {xs : List V} {q : Post} (hxs : fillA 3 [.int 0] xs = some [.ref x, .bytes b, .int k]) (hx : IsF σ x c F) (hm : canW F) (hc : σ c = some (.dict es ep)) (hz : es.length ≤ 60)
    (h : ∀ σ' ep', IsF σ' x c (wrt F es k b).1 → σ' c = some (.dict (wrt F es k b).2.1 ep') → Kp [c] σ σ' → q (.str (wrt F es k b).2.2) σ') : fnW P1 (n + 1) 127 xs q σ := by
  have ne : c ≠ x := (hx.ne_dict hc).symm
  refine ⟨_, hxs, ?_⟩
  show wpSs (P1.gx n) b_write _ _ _
  rw [ss_cons_, s_asg, e_int]
  refine put_at rfl hx (by simp [Fil.vs]) ?_
  have hx1 : IsF (σ.set x (.inst 158 (putF (F.vs c) 7 (.int 0)))) x c { F with last := 0 } := by
    show (Sto.set _ x _) x = _
    rw [Sto.set_self]; rfl
  have hc1 : (σ.set x (.inst 158 (putF (F.vs c) 7 (.int 0)))) c = some (.dict es ep) := by rw [Sto.set_ne _ _ ne]; exact hc
  have k1 : Kp [] σ (σ.set x (.inst 158 (putF (F.vs c) 7 (.int 0)))) := Kp.put hx (fun z => z)
  generalize σ.set x (.inst 158 (putF (F.vs c) 7 (.int 0))) = τ at *
  -- behind the number
  have tail : ∀ (Q : PostF), Q = retW q → ∀ (τ1 : Sto) (j : Int), j = wrJ F k → Kp [] σ τ1 → IsF τ1 x c { F with last := 0 } → τ1 c = some (.dict es ep) →
      wpSs (P1.gx n) (.cons (.ite (.or (.cmp .lt (.var 2) (.int 1)) (.chain (.int 0) .lt (.attr (.var 0) 3) .lt (.var 2))) (.cons (.ret (.str "24")) .nil) (.nil)) (.cons (.ite (.cmp .isIn (.var 2) (.attr (.var 0) 0)) (.cons (.ret (.str "22")) .nil) (.nil)) (.cons (.asg (.sub (.attr (.var 0) 0) (.var 2)) (.bi .bytes (.var 1))) (.cons (.asg (.attr (.var 0) 8) (.var 2)) (.cons (.ret (.str "00")) .nil))))) Q [some (.ref x), some (.bytes b), some (.int j)] τ1 := by
    rintro _ rfl τ1 _ rfl kp hx1 hc1
    unfold wrt at h
    rw [ss_cons_, s_ite, c_or, c_cmp, e_var]
    refine ⟨_, rfl, ?_⟩
    rw [e_int]
    show if decide (wrJ F k < 1) = true then _ else _
    have no : ¬ wrBad F k → wpSs (P1.gx n) (.cons (.ite (.cmp .isIn (.var 2) (.attr (.var 0) 0)) (.cons (.ret (.str "22")) .nil) (.nil)) (.cons (.asg (.sub (.attr (.var 0) 0) (.var 2)) (.bi .bytes (.var 1))) (.cons (.asg (.attr (.var 0) 8) (.var 2)) (.cons (.ret (.str "00")) .nil)))) (retW q) [some (.ref x), some (.bytes b), some (.int (wrJ F k))] τ1 := by
      intro hb
      rw [if_neg hb] at h
      rw [ss_cons_, s_ite, c_cmp, e_var]
      refine ⟨_, rfl, get_at rfl hx1 rfl (in_dict hc1 rfl ?_)⟩
      by_cases hg : (getE (wrJ F k) es).isSome = true
      · rw [if_pos hg] at h
        rw [if_pos hg, ss_cons_, s_ret, e_str]
        exact h τ1 ep hx1 hc1 kp.weak
      · rw [if_neg hg] at h
        rw [if_neg hg, ss_nil_]
        dsimp only
        rw [ss_cons_, s_asg, e_bi, e_var]
        refine ⟨_, rfl, ?_⟩
        show wpT (P1.gx n) _ (.bytes b) _ _ τ1
        rw [t_sub]
        refine get_at rfl hx1 rfl ?_
        rw [e_var]
        refine ⟨_, rfl, c, wrJ F k, es, ep, rfl, rfl, hc1, by omega, fun ep' => ?_⟩
        have k2 : Keep [c] τ1 (τ1.set c (.dict (putE (wrJ F k) (.bytes b) es) ep')) := keep_set hc1
        have hx2 := k2 x _ (by simpa using ne.symm) hx1
        have hc2 : (τ1.set c (.dict (putE (wrJ F k) (.bytes b) es) ep')) c = some (.dict (putE (wrJ F k) (.bytes b) es) ep') := Sto.set_self _ _ _
        have kp2 := k2.kpd hc1 hc2
        generalize τ1.set c (.dict (putE (wrJ F k) (.bytes b) es) ep') = τ2 at *
        dsimp only
        rw [ss_cons_, s_asg, e_var]
        refine ⟨_, rfl, put_at rfl hx2 (by simp [Fil.vs]) ?_⟩
        dsimp only
        rw [ss_cons_, s_ret, e_str]
        refine h _ ep' ?_ ?_ ((kp.weak.trans kp2).trans (Kp.put hx2 (fun z => z)))
        · show (Sto.set _ x _) x = _
          rw [Sto.set_self]; rfl
        · rw [Sto.set_ne _ _ ne]; exact hc2
    by_cases h1 : wrJ F k < 1
    · rw [if_pos (show wrBad F k from .inl h1)] at h
      rw [if_pos (by simpa using h1), if_pos rfl, ss_cons_, s_ret, e_str]
      exact h τ1 ep hx1 hc1 kp.weak
    · rw [if_neg (by simpa using h1), c_chain, e_int]
      refine get_at rfl hx1 rfl ?_
      show if decide (0 < F.most) = true then _ else _
      by_cases h2 : 0 < F.most
      · rw [if_pos (by simpa using h2), e_var]
        refine ⟨_, rfl, ?_⟩
        show if decide (F.most < wrJ F k) = true then _ else _
        by_cases h3 : F.most < wrJ F k
        · rw [if_pos (show wrBad F k from .inr ⟨h2, h3⟩)] at h
          rw [if_pos (by simpa using h3), ss_cons_, s_ret, e_str]
          exact h τ1 ep hx1 hc1 kp.weak
        · rw [if_neg (by simpa using h3), ss_nil_]
          exact no (by unfold wrBad; omega)
      · rw [if_neg (by simpa using h2), if_neg (by decide), ss_nil_]
        exact no (by unfold wrBad; omega)
  dsimp only
  rw [ss_cons_, s_ite, c_cmp]
  refine get_at rfl hx1 rfl ?_
  rw [e_str]
  refine str_eq ?_
  dsimp only
  rcases hm with ⟨ha, hm⟩ | ⟨ha, hm⟩
  · have e : (F.access == ("sequential" : PySem.Str)) = true := by rw [ha]; decide +kernel
    have hj : wrJ F k = F.number + 1 := by unfold wrJ; rw [if_pos e]
    rw [e, if_pos rfl, ss_cons_, s_ite]
    refine two_in rfl hx1 rfl hm fun τ1 k2 hx2 => ?_
    rw [if_neg (by decide), ss_nil_]
    dsimp only
    rw [ss_cons_, s_asg, e_add]
    refine get_at rfl hx2 rfl ?_
    rw [e_int]
    show wpT _ _ (.int (F.number + 1)) _ _ τ1
    rw [t_var]
    refine ⟨by simp, ?_⟩
    dsimp only
    rw [ss_nil_]
    exact tail _ rfl τ1 _ hj.symm (k1.trans k2) hx2 (k2.dict hc1)
  · have e : (F.access == ("sequential" : PySem.Str)) = false := by rcases ha with ha | ha <;> rw [ha] <;> decide +kernel
    have hj : wrJ F k = k := by unfold wrJ; rw [if_neg (by rw [e]; decide)]
    rw [e, if_neg (by decide), ss_cons_, s_ite]
    refine two_in rfl hx1 rfl hm fun τ1 k2 hx2 => ?_
    rw [if_neg (by decide), ss_nil_]
    dsimp only
    rw [ss_nil_]
    exact tail _ rfl τ1 _ hj.symm (k1.trans k2) hx2 (k2.dict hc1)
end Mine
end
section
open PySem
set_option Elab.async false
set_option maxRecDepth 100000
namespace Mine
variable {n : Nat} {σ σ' : Sto} {ε : Env0}
theorem e_upto {Γ : Gx} {a i : PE} {q : Post} : wpE Γ (.upto a i) q ε σ = wpE Γ a (fun x σ' => wpE Γ i (fun y σ'' => sliceW Γ List.take x y q σ'') ε σ') ε σ := rfl
theorem e_from {Γ : Gx} {a i : PE} {q : Post} : wpE Γ (.from_ a i) q ε σ = wpE Γ a (fun x σ' => wpE Γ i (fun y σ'' => sliceW Γ List.drop x y q σ'') ε σ') ε σ := rfl
theorem putE_new : ∀ {es : List (Int × V)} {j : Int} {x : V}, j ∉ keys es → putE j x es = es ++ [(j, x)]
  | [], _, _, _ => rfl
  | p :: r, j, x, h => by
    have h : j ≠ p.1 ∧ j ∉ keys r := ⟨fun z => h (z ▸ List.mem_cons_self), fun z => h (List.mem_cons_of_mem _ z)⟩
    unfold putE
    rw [if_neg (Ne.symm h.1), putE_new h.2]; rfl
noncomputable def numF : List (Array UInt8) → Nat → List (Int × V)
  | [], _ => []
  | b :: r, k => (((k + 1 : Nat) : Int), .bytes b) :: numF r (k + 1)
theorem numF_snoc : ∀ (bs : List (Array UInt8)) (b : Array UInt8) (k : Nat), numF (bs ++ [b]) k = numF bs k ++ [(((k + bs.length + 1 : Nat) : Int), .bytes b)]
  | [], b, k => rfl
  | c :: r, b, k => by
    show _ :: numF (r ++ [b]) (k + 1) = _ :: (numF r (k + 1) ++ _)
    rw [numF_snoc r b (k + 1)]
    have e : k + 1 + r.length + 1 = k + (c :: r).length + 1 := by simp only [List.length_cons]; omega
    rw [e]
theorem numF_mem : ∀ {bs : List (Array UInt8)} {k : Nat} {j : Int}, j ∈ keys (numF bs k) ↔ (k : Int) < j ∧ j ≤ (k : Int) + bs.length
  | [], k, j => by
    show j ∈ ([] : List Int) ↔ _
    simp <;> omega
  | b :: r, k, j => by
    show j ∈ ((k + 1 : Nat) : Int) :: keys (numF r (k + 1)) ↔ _
    rw [List.mem_cons, numF_mem]
    simp only [List.length_cons]
    omega
theorem numF_length : ∀ {bs : List (Array UInt8)} {k : Nat}, (numF bs k).length = bs.length
  | [], _ => rfl
  | _ :: r, k => by show (numF r (k + 1)).length + 1 = _; rw [numF_length]; rfl
theorem numF_nodup : ∀ {bs : List (Array UInt8)} {k : Nat}, (keys (numF bs k)).Nodup
  | [], _ => List.nodup_nil
  | b :: r, k => by
    show (((k + 1 : Nat) : Int) :: keys (numF r (k + 1))).Nodup
    rw [List.nodup_cons, numF_mem]
    exact ⟨by omega, numF_nodup⟩
theorem numF_oct : ∀ {bs : List (Array UInt8)} {k : Nat}, Oct (numF bs k)
  | [], _ => fun p hp => nomatch hp
  | b :: r, k => fun p hp => by
    rcases List.mem_cons.mp (show p ∈ _ :: numF r (k + 1) from hp) with rfl | z
    · exact ⟨b, rfl⟩
    · exact numF_oct p z
theorem numF_good {bs : List (Array UInt8)} (h : bs.length ≤ 60) : Good (numF bs 0) := ⟨numF_nodup, fun k hk => by have := numF_mem.mp (show k ∈ keys (numF bs 0) from hk); omega, by rw [numF_length]; exact h⟩
theorem foldl_max_ge : ∀ (ks : List Int) (m : Int), m ≤ ks.foldl max m ∧ ∀ k ∈ ks, k ≤ ks.foldl max m
  | [], m => ⟨Int.le_refl _, fun _ h => nomatch h⟩
  | k :: r, m => by
    obtain ⟨h1, h2⟩ := foldl_max_ge r (max m k)
    refine ⟨by simp only [List.foldl_cons]; omega, fun j hj => ?_⟩
    simp only [List.foldl_cons]
    rcases List.mem_cons.mp hj with rfl | z
    · omega
    · exact h2 j z
theorem foldl_max_mem : ∀ (ks : List Int) (m : Int), ks.foldl max m = m ∨ ks.foldl max m ∈ ks
  | [], m => .inl rfl
  | k :: r, m => by
    simp only [List.foldl_cons]
    rcases foldl_max_mem r (max m k) with h | h
    · rcases Int.le_total m k with z | z
      · exact .inr (by rw [h]; rw [show max m k = k by omega]; exact .head _)
      · exact .inl (by rw [h]; omega)
    · exact .inr (.tail _ h)
theorem maxK_eq {ks : List Int} {M : Int} (hm : M ∈ ks) (h : ∀ k ∈ ks, k ≤ M) : maxK ks = M := by
  cases ks with
  | nil => cases hm
  | cons k r =>
    show r.foldl max k = M
    obtain ⟨h1, h2⟩ := foldl_max_ge r k
    have hM : M ≤ r.foldl max k := by
      rcases List.mem_cons.mp hm with rfl | z
      · exact h1
      · exact h2 _ z
    rcases foldl_max_mem r k with e | e
    · have := h k (.head _); omega
    · have := h _ (.tail _ e); omega
theorem maxK_num {bs : List (Array UInt8)} : maxK (keys (numF bs 0)) = bs.length := by
  cases bs with
  | nil => rfl
  | cons b r => exact maxK_eq (numF_mem.mpr (by simp only [List.length_cons]; omega)) fun k hk => by have := numF_mem.mp hk; omega
noncomputable def capN (m i : Nat) : Nat := if m = 0 then i else min i m
noncomputable def ordS (m i : Nat) : PySem.Str := if m ≠ 0 ∧ m ≤ i then "24" else "00"
noncomputable def ordIt (m i : Nat) : It := .tup [.str (ordS m i), .int (capN m (i + 1) : Nat)]
theorem capN_le {m i : Nat} : capN m i ≤ i := by unfold capN; split <;> omega
theorem take_of_drop : ∀ {bs : List (Array UInt8)} {i : Nat} {b : Array UInt8} {r : List (Array UInt8)}, bs.drop i = b :: r → bs.take (i + 1) = bs.take i ++ [b] ∧ i < bs.length ∧ bs.drop (i + 1) = r
  | [], i, b, r, h => by simp at h
  | c :: cs, 0, b, r, h => by cases h; exact ⟨rfl, by simp, rfl⟩
  | c :: cs, i + 1, b, r, h => by
    obtain ⟨h1, h2, h3⟩ := take_of_drop (bs := cs) (i := i) h
    exact ⟨by show c :: cs.take (i + 1) = c :: (cs.take i ++ [b]); rw [h1], by simp; omega, h3⟩
theorem wrt_ord {bs : List (Array UInt8)} {i m : Nat} {b : Array UInt8} {r : List (Array UInt8)} {mode : PySem.Str} {k : Int} (h : bs.drop i = b :: r) :
    wrt (Fil.fresh mode "sequential" m (capN m i : Nat)) (numF (bs.take (capN m i)) 0) k b = (Fil.fresh mode "sequential" m (capN m (i + 1) : Nat), numF (bs.take (capN m (i + 1))) 0, ordS m i) := by
  obtain ⟨h1, h2, _⟩ := take_of_drop h
  have hj : wrJ (Fil.fresh mode "sequential" m (capN m i : Nat)) k = ((capN m i + 1 : Nat) : Int) := by
    unfold wrJ
    show (if (("sequential" : PySem.Str) == ("sequential" : PySem.Str)) = true then ((capN m i : Nat) : Int) + 1 else k) = _
    rw [if_pos (by decide +kernel)]
    omega
  unfold wrt wrBad ordS
  rw [hj]
  show (if ((capN m i + 1 : Nat) : Int) < 1 ∨ (0 < (m : Int) ∧ (m : Int) < ((capN m i + 1 : Nat) : Int)) then _ else _) = _
  by_cases hb : m ≠ 0 ∧ m ≤ i
  · have e1 : capN m i = m := by unfold capN; rw [if_neg hb.1]; omega
    have e2 : capN m (i + 1) = m := by unfold capN; rw [if_neg hb.1]; omega
    rw [if_pos (by rw [e1]; omega), if_pos hb, e1, e2]; rfl
  · have e1 : capN m i = i := by unfold capN; split <;> omega
    have e2 : capN m (i + 1) = i + 1 := by unfold capN; split <;> omega
    have hno : ((i + 1 : Nat) : Int) ∉ keys (numF (bs.take i) 0) := fun z => by
      have := (numF_mem.mp z).2
      rw [List.length_take] at this
      omega
    rw [if_neg (by rw [e1]; omega), if_neg hb, e1, e2, if_neg (fun z => hno (isSome_getE.mp z)), putE_new hno, h1, numF_snoc]
    have e3 : 0 + (bs.take i).length + 1 = i + 1 := by rw [List.length_take]; omega
    rw [e3]; rfl
@[reducible] noncomputable def wrBody (fi : Nat) : PSs := .cons (.expr (.bm (.var 4) .append (.cons (.tup (.cons (.meth (.var fi) 1 (.cons (.var 6) .nil)) (.cons (.attr (.var fi) 8) .nil))) .nil))) .nil
theorem wr_loop {fi : Nat} (hfi : fi ≠ 6) {c x l s : Addr} {bs : List (Array UInt8)} {m : Nat} {mode : PySem.Str} {sv : List V} (hmode : mode = "output" ∨ mode = "extend") (hbs : bs.length ≤ 50) (sl : s ≠ l) {q : PostF} :
    ∀ (seg more : List (Array UInt8)) (i : Nat) (ε : Env0) (vs : List V) (its : List It) (τ : Sto) (ep : Nat), bs.drop i = seg ++ more → ε.length = 8 → ε[4]? = some (some (.ref l)) → ε[fi]? = some (some (.ref x)) → IsF τ x c (Fil.fresh mode "sequential" m (capN m i : Nat)) → τ c = some (.dict (numF (bs.take (capN m i)) 0) ep) → τ l = some (.list true vs) → τ s = some (.list true sv) → Its τ vs its → vs.length + seg.length ≤ 100 →
      (∀ ε' τ' vs' ep', ε'.length = 8 → (∀ j, j ≠ 6 → ε'[j]? = ε[j]?) → IsF τ' x c (Fil.fresh mode "sequential" m (capN m (i + seg.length) : Nat)) → τ' c = some (.dict (numF (bs.take (capN m (i + seg.length))) 0) ep') → τ' l = some (.list true vs') → Its τ' vs' (its ++ (List.range' i seg.length).map (ordIt m)) → Kp [c, l] τ τ' → q .next ε' τ') →
      goFor (P1.gx (n + 1)) (wpT (P1.gx (n + 1)) (.var 6)) (wpSs (P1.gx (n + 1)) (wrBody fi)) s (.list true sv) q (seg.map .bytes) ε τ
  | [], more, i, ε, vs, its, τ, ep, hseg, hl, e4, ef, hx, hc, hls, hs, hits, hlen, hq => ⟨(look_dyn rfl).trans hs, hq ε τ vs ep hl (fun _ _ => rfl) hx hc hls (by simpa using hits) Kp.refl⟩
  | b :: seg, more, i, ε, vs, its, τ, ep, hseg, hl, e4, ef, hx, hc, hls, hs, hits, hlen, hq => by
    have nlc : l ≠ c := fun e => by rw [e, hc] at hls; cases hls
    have nsc : s ≠ c := fun e => by rw [e, hc] at hs; cases hs
    simp only [List.length_cons] at hlen
    refine ⟨(look_dyn rfl).trans hs, ?_⟩
    rw [t_var]
    refine ⟨by omega, ?_⟩
    have fj : ∀ j, j ≠ 6 → (ε.set 6 (some (.bytes b)))[j]? = ε[j]? := fun j hj => by rw [List.getElem?_set_ne (Ne.symm hj)]
    have f6 : (ε.set 6 (some (.bytes b)))[6]? = some (some (.bytes b)) := by rw [List.getElem?_set_self (by omega)]
    have f4 := (fj 4 (by decide)).trans e4
    have ff := (fj fi hfi).trans ef
    have fl : (ε.set 6 (some (.bytes b))).length = 8 := by rw [List.length_set]; exact hl
    generalize ε.set 6 (some (.bytes b)) = ε1 at *
    rw [ss_cons_]
    refine app_at f4 hls ?_
    rw [e_tup, es_cons, e_meth, e_var]
    refine ⟨.ref x, ff, ⟨x, _, rfl, hx⟩, ?_⟩
    rw [es_cons, e_var]
    refine ⟨.bytes b, f6, ?_⟩
    rw [es_nil]
    refine sp_write (k := 0) (b := b) rfl hx (.inl ⟨rfl, hmode⟩) hc (by rw [numF_length, List.length_take]; omega) fun τ1 ep1 hx1 hc1 k1 => ?_
    rw [wrt_ord hseg] at hx1 hc1 ⊢
    dsimp only at hx1 hc1 ⊢
    rw [es_cons]
    refine get_v (y := .int (capN m (i + 1) : Nat)) ff hx1 rfl ?_
    rw [es_nil]
    intro t ht
    have hl1 := k1.list hls (by simpa using nlc)
    have hs1 := k1.list hs (by simpa using nsc)
    have k3 : Kp [] τ1 (τ1.set t (.tup [.str (ordS m i), .int (capN m (i + 1) : Nat)])) := Kp.new ht.1
    have hx3 := Keep.new (X := []) ht.1 (o := .tup [.str (ordS m i), .int (capN m (i + 1) : Nat)]) x _ (fun z => nomatch z) hx1
    have hc3 := k3.dict hc1
    have hl3 := k3.list hl1
    have hs3 := k3.list hs1
    have ht3 : (τ1.set t (.tup [.str (ordS m i), .int (capN m (i + 1) : Nat)])) t = some (.tup [.str (ordS m i), .int (capN m (i + 1) : Nat)]) := Sto.set_self _ _ _
    have its3 := (hits.keep k1).keep k3
    have kk3 := k1.trans k3.weak
    show ∃ xs, (τ1.set t (.tup [.str (ordS m i), .int (capN m (i + 1) : Nat)])) l = some (.list true xs) ∧ _
    generalize τ1.set t (.tup [.str (ordS m i), .int (capN m (i + 1) : Nat)]) = τ3 at *
    refine ⟨vs, hl3, by omega, (fun _ => nofun), ?_⟩
    have nxl : x ≠ l := IsF.ne_list hx3 hl3
    have s4 : Keep [l] τ3 (τ3.set l (.list true (vs ++ [.ref t]))) := keep_set hl3
    have k4 : Kp [c, l] τ3 (τ3.set l (.list true (vs ++ [.ref t]))) := Kp.put hl3 (by simp [keeps])
    have kk4 : Kp [c, l] τ (τ3.set l (.list true (vs ++ [.ref t]))) := (kk3.mono (by simp)).trans k4
    rw [ss_nil_]
    refine wr_loop hfi hmode hbs sl seg more (i + 1) ε1 (vs ++ [.ref t]) (its ++ [ordIt m i]) _ ep1 ((take_of_drop hseg).2.2) fl f4 ff (s4 x _ (by simpa using nxl) hx3) (s4 c _ (by simpa using nlc.symm) hc3) (Sto.set_self _ _ _) (s4 s _ (by simpa using sl) hs3) ((its3.keep k4).snoc (ItAt.of (k4.tup ht3) rfl)) (by simp; omega) fun ε' τ' vs' ep' b0 b1 b2 b3 b4 b5 b6 => ?_
    have e : i + 1 + seg.length = i + (b :: seg).length := by simp only [List.length_cons]; omega
    rw [e] at b2 b3
    refine hq ε' τ' vs' ep' b0 (fun j hj => (b1 j hj).trans (fj j hj)) b2 b3 b4 ?_ (kk4.trans b6)
    rw [List.append_assoc] at b5
    exact b5
theorem ordIt_ok {m : Nat} {is : List Nat} : ∀ i ∈ is.map (ordIt m), i.ok := by
  intro i hi
  obtain ⟨k, _, rfl⟩ := List.mem_map.mp hi
  intro x hx
  simp only [List.mem_cons, List.not_mem_nil, or_false] at hx
  rcases hx with rfl | rfl <;> rfl
theorem sp_byorder {r : Addr} {bs : List (Array UInt8)} {mN m : Nat} {q : Post} (hr : σ r = some (.list true (bs.map .bytes))) (hbs : bs.length ≤ 50) (hmN : mN ≤ bs.length)
    (h : ∀ σ' t c l vs ep, σ' t = some (.tup [.ref c, .ref l]) → σ' c = some (.dict (numF (bs.take (capN m bs.length)) 0) ep) → σ' l = some (.list true vs) → Its σ' vs ((List.range bs.length).map (ordIt m)) → Kp [] σ σ' → σ c = none → σ l = none → q (.ref t) σ') : fnW P1 (n + 5) 176 [.ref r, .int (mN : Nat), .int (m : Nat)] q σ := by
  refine ⟨_, rfl, ?_⟩
  show wpSs (P1.gx (n + 4)) b_law_by_order _ _ _
  rw [ss_cons_, s_asg, e_tup, es_cons, e_dict, ds_cons, e_int]
  refine ⟨9, rfl, ?_⟩
  rw [e_bytes, ds_nil]
  intro c hcn epc
  show wpEs _ _ _ _ (σ.set c (.dict [(9, .bytes [101, 108, 100, 101, 114].toArray)] epc))
  have k1 : Kp [] σ (σ.set c (.dict [(9, .bytes [101, 108, 100, 101, 114].toArray)] epc)) := Kp.new hcn.1
  have hc1 := Sto.set_self σ c (.dict [(9, .bytes [101, 108, 100, 101, 114].toArray)] epc)
  have hr1 := k1.list hr
  generalize σ.set c (.dict [(9, .bytes [101, 108, 100, 101, 114].toArray)] epc) = σ1 at *
  rw [es_cons, e_list, es_nil]
  intro l hln
  have k2 : Kp [] σ1 (σ1.set l (.list true [])) := Kp.new hln.1
  have hl2 := Sto.set_self σ1 l (.list true [])
  have hc2 := k2.dict hc1
  have hr2 := k2.list hr1
  have nrl : r ≠ l := fun e => by have := hln.1; rw [← e, hr1] at this; cases this
  have nl : σ l = none := k1.2 _ hln.1
  generalize σ1.set l (.list true []) = σ2 at *
  rw [es_nil]
  intro t ht
  have k3 : Kp [] σ2 (σ2.set t (.tup [.ref c, .ref l])) := Kp.new ht.1
  have ht3 := Sto.set_self σ2 t (.tup [.ref c, .ref l])
  have hc3 := k3.dict hc2
  have hl3 := k3.list hl2
  have hr3 := k3.list hr2
  have kk3 : Kp [] σ _ := (k1.trans k2).trans k3
  generalize σ2.set t (.tup [.ref c, .ref l]) = σ3 at *
  rw [t_rev]
  refine ⟨t, _, rfl, (look_dyn rfl).trans ht3, rfl, ?_⟩
  show wpSs (P1.gx (n + 4)) _ (retW q) [some (.ref r), some (.int (mN : Nat)), some (.int (m : Nat)), some (.ref c), some (.ref l), none, none, none] σ3
  have nlc : l ≠ c := fun e => by rw [e, hc3] at hl3; cases hl3
  have nrc : r ≠ c := fun e => by rw [e, hc3] at hr3; cases hr3
  rw [ss_cons_, s_asg, e_fnW, es_cons, e_var]
  refine ⟨.ref c, rfl, ?_⟩
  rw [es_cons, e_str, es_cons, e_str, es_cons, e_var]
  refine ⟨_, rfl, ?_⟩
  rw [es_nil]
  refine sp_file (n := n + 1) (most := (m : Nat)) (fun x => rfl) hc3 (by simp) (fun z => absurd z (by decide +kernel)) fun σ4 x ep4 hx4 hc4 k4 _ => ?_
  rw [if_pos (by decide +kernel)] at hc4
  rw [show iniN "output" [(9, V.bytes [101, 108, 100, 101, 114].toArray)] = 0 from by unfold iniN; rw [if_neg (by decide +kernel)]] at hx4
  have hl4 := k4.list hl3 (by simpa using nlc)
  have hr4 := k4.list hr3 (by simpa using nrc)
  have kk4 : Kp [c] σ σ4 := kk3.weak.trans k4
  rw [t_var]
  refine ⟨by simp, ?_⟩
  dsimp only
  rw [ss_cons_, s_for, e_upto, e_var]
  refine ⟨.ref r, rfl, ?_⟩
  rw [e_var]
  refine ⟨_, rfl, by omega, _, _, (look_dyn rfl).trans hr4, fun s hs => ?_⟩
  rw [Int.toNat_natCast]
  have k5 : Kp [] σ4 (σ4.set s (.list true ((bs.map V.bytes).take mN))) := Kp.new hs.1
  have hs5 := Sto.set_self σ4 s (.list true ((bs.map V.bytes).take mN))
  have hx5 := Keep.new (X := []) hs.1 (o := .list true ((bs.map V.bytes).take mN)) x _ (fun z => nomatch z) hx4
  have hc5 := k5.dict hc4
  have hl5 := k5.list hl4
  have hr5 := k5.list hr4
  have nsl : s ≠ l := fun e => by have := hs.1; rw [e, hl4] at this; cases this
  generalize σ4.set s (.list true ((bs.map V.bytes).take mN)) = σ5 at *
  refine ⟨s, _, _, rfl, (look_dyn rfl).trans hs5, rfl, by rw [List.length_take, List.length_map]; omega, ?_⟩
  rw [← List.map_take] at hs5 ⊢
  have cap0 : capN m 0 = 0 := by unfold capN; split <;> omega
  refine wr_loop (n := n + 3) (fi := 5) (bs := bs) (m := m) (by decide) (.inl rfl) hbs nsl (bs.take mN) (bs.drop mN) 0 _ [] [] σ5 ep4 (by rw [List.take_append_drop]; rfl) rfl rfl rfl (by rw [cap0]; exact hx5) (by rw [cap0]; exact hc5) hl5 hs5 .nil (by rw [List.length_take]; simp; omega) fun ε6 σ6 vs6 ep6 l6 i6 hx6 hc6 hl6 its6 k6 => ?_
  have hlt : (bs.take mN).length = mN := by rw [List.length_take]; omega
  rw [hlt] at hx6 hc6 its6
  rw [Nat.zero_add] at hx6 hc6
  have hr6 := k6.list hr5 (by simp [nrc, nrl])
  have kk6 : Kp [c, l] σ σ6 := ((kk4.trans k5.weak).mono (by simp)).trans k6
  have g0 : ε6[0]? = some (some (.ref r)) := (i6 0 (by decide)).trans rfl
  have g1 : ε6[1]? = some (some (.int (mN : Nat))) := (i6 1 (by decide)).trans rfl
  have g2 : ε6[2]? = some (some (.int (m : Nat))) := (i6 2 (by decide)).trans rfl
  have g3 : ε6[3]? = some (some (.ref c)) := (i6 3 (by decide)).trans rfl
  have g4 : ε6[4]? = some (some (.ref l)) := (i6 4 (by decide)).trans rfl
  dsimp only
  rw [ss_cons_, s_asg, e_fnW, es_cons, e_var]
  refine ⟨_, g3, ?_⟩
  rw [es_cons, e_str, es_cons, e_str, es_cons, e_var]
  refine ⟨_, g2, ?_⟩
  rw [es_nil]
  have hle : (bs.take (capN m mN)).length ≤ 50 := by rw [List.length_take]; omega
  refine sp_file (n := n + 1) (most := (m : Nat)) (fun x => rfl) hc6 (by rw [numF_length]; omega) (fun _ => rfl) fun σ7 y ep7 hx7 hc7 k7 _ => ?_
  rw [if_neg (by decide +kernel)] at hc7
  have hcap : (bs.take (capN m mN)).length = capN m mN := by rw [List.length_take]; have := capN_le (m := m) (i := mN); omega
  rw [show iniN "extend" (numF (bs.take (capN m mN)) 0) = (capN m mN : Nat) from by unfold iniN; rw [if_pos (by decide +kernel), maxK_num, hcap]] at hx7
  have hl7 := k7.list hl6 (by simpa using nlc)
  have hr7 := k7.list hr6 (by simpa using nrc)
  have its7 := its6.keep k7
  have kk7 : Kp [c, l] σ σ7 := kk6.trans (k7.mono (by simp))
  rw [t_var]
  refine ⟨by omega, ?_⟩
  have f7 : (ε6.set 7 (some (.ref y)))[7]? = some (some (.ref y)) := by rw [List.getElem?_set_self (by omega)]
  have fj : ∀ j, j ≠ 7 → (ε6.set 7 (some (.ref y)))[j]? = ε6[j]? := fun j hj => by rw [List.getElem?_set_ne (Ne.symm hj)]
  have fl : (ε6.set 7 (some (.ref y))).length = 8 := by rw [List.length_set]; exact l6
  have f0 := (fj 0 (by decide)).trans g0
  have f1 := (fj 1 (by decide)).trans g1
  have f3 := (fj 3 (by decide)).trans g3
  have f4 := (fj 4 (by decide)).trans g4
  generalize ε6.set 7 (some (.ref y)) = ε7 at *
  dsimp only
  rw [ss_cons_, s_for, e_from, e_var]
  refine ⟨.ref r, f0, ?_⟩
  rw [e_var]
  refine ⟨_, f1, by omega, _, _, (look_dyn rfl).trans hr7, fun s2 hs2 => ?_⟩
  rw [Int.toNat_natCast]
  have k8 : Kp [] σ7 (σ7.set s2 (.list true ((bs.map V.bytes).drop mN))) := Kp.new hs2.1
  have hs8 := Sto.set_self σ7 s2 (.list true ((bs.map V.bytes).drop mN))
  have hx8 := Keep.new (X := []) hs2.1 (o := .list true ((bs.map V.bytes).drop mN)) y _ (fun z => nomatch z) hx7
  have hc8 := k8.dict hc7
  have hl8 := k8.list hl7
  have its8 := its7.keep k8
  have nsl2 : s2 ≠ l := fun e => by have := hs2.1; rw [e, hl7] at this; cases this
  generalize σ7.set s2 (.list true ((bs.map V.bytes).drop mN)) = σ8 at *
  refine ⟨s2, _, _, rfl, (look_dyn rfl).trans hs8, rfl, by rw [List.length_drop, List.length_map]; omega, ?_⟩
  rw [← List.map_drop] at hs8 ⊢
  refine wr_loop (n := n + 3) (fi := 7) (bs := bs) (m := m) (by decide) (.inr rfl) hbs nsl2 (bs.drop mN) [] mN ε7 vs6 _ σ8 ep7 (by rw [List.append_nil]) fl f4 f7 hx8 hc8 hl8 hs8 its8 (by rw [its8.length, List.length_append, List.length_map, List.length_range', List.length_drop]; simp; omega) fun ε9 σ9 vs9 ep9 l9 i9 hx9 hc9 hl9 its9 k9 => ?_
  have hld : mN + (bs.drop mN).length = bs.length := by rw [List.length_drop]; omega
  rw [hld] at hc9
  dsimp only
  rw [ss_cons_, s_ret, e_tup, es_cons, e_var]
  refine ⟨_, (i9 3 (by decide)).trans f3, ?_⟩
  rw [es_cons, e_var]
  refine ⟨_, (i9 4 (by decide)).trans f4, ?_⟩
  rw [es_nil]
  intro t2 ht2
  have k10 : Kp [] σ9 (σ9.set t2 (.tup [.ref c, .ref l])) := Kp.new ht2.1
  have kk : Kp [c, l] σ (σ9.set t2 (.tup [.ref c, .ref l])) := ((kk7.trans k8.weak).trans k9).trans k10.weak
  refine h _ t2 c l vs9 ep9 (Sto.set_self _ _ _) (k10.dict hc9) (k10.list hl9) (Its.keep ?_ k10) (Kp.drop nl (Kp.drop hcn.1 kk)) hcn.1 nl
  rw [List.nil_append, ← List.map_append] at its9
  have e : List.range' 0 mN ++ List.range' mN (bs.drop mN).length = List.range bs.length := by
    rw [List.range_eq_range', ← hld, List.range'_append_1.symm]
    simp
  rw [e] at its9
  exact its9
end Mine
end
section
open PySem
set_option Elab.async false
set_option maxRecDepth 100000
namespace Mine
variable {n : Nat} {σ σ' : Sto} {ε : Env0}
@[reducible] noncomputable def odBody : PSs := .cons (.ite (.chain (.int 0) .lt (.var 2) .lt (.add (.var 4) (.int 1))) (.cons (.expr (.bm (.var 3) .append (.cons (.tup (.cons (.str "24") (.cons (.var 4) .nil))) .nil))) .nil) (.cons (.asg (.var 4) (.add (.var 4) (.int 1))) (.cons (.expr (.bm (.var 3) .append (.cons (.tup (.cons (.str "00") (.cons (.var 4) .nil))) .nil))) .nil))) .nil
theorem od_loop {l a : Addr} {v0 v1 : Option V} {m N : Nat} {q : PostF} :
    ∀ (k i : Nat) (vs : List V) (its : List It) (z : Option V) (τ : Sto), τ l = some (.list true vs) → τ a = some (.range N) → Its τ vs its → vs.length + k ≤ 200 →
      (∀ τ' vs' z', τ' l = some (.list true vs') → Its τ' vs' (its ++ (List.range' i k).map (ordIt m)) → Kp [l] τ τ' → q .next [v0, v1, some (.int (m : Nat)), some (.ref l), some (.int (capN m (i + k) : Nat)), z'] τ') →
      goFor (P1.gx n) (wpT (P1.gx n) (.var 5)) (wpSs (P1.gx n) odBody) a (.range N) q ((List.range' i k).map fun i => .int (i : Nat)) [v0, v1, some (.int (m : Nat)), some (.ref l), some (.int (capN m i : Nat)), z] τ
  | 0, i, vs, its, z, τ, hl, ha, hits, hlen, hq => ⟨(look_dyn rfl).trans ha, hq τ vs z hl (by simpa using hits) Kp.refl⟩
  | k + 1, i, vs, its, z, τ, hl, ha, hits, hlen, hq => by
    have nla : l ≠ a := fun e => by rw [e, ha] at hl; cases hl
    refine ⟨(look_dyn rfl).trans ha, ?_⟩
    show wpT (P1.gx n) (.var 5) (.int (i : Nat)) _ _ τ
    rw [t_var]
    refine ⟨by simp, ?_⟩
    have tell : ∀ (Q : PostF), (∀ ε' σ'', Q .next ε' σ'' = goFor (P1.gx n) (wpT (P1.gx n) (.var 5)) (wpSs (P1.gx n) odBody) a (.range N) q ((List.range' (i + 1) k).map fun i => .int (i : Nat)) ε' σ'') →
        wpS (P1.gx n) (.expr (.bm (.var 3) .append (.cons (.tup (.cons (.str (ordS m i)) (.cons (.var 4) .nil))) .nil))) Q [v0, v1, some (.int (m : Nat)), some (.ref l), some (.int (capN m (i + 1) : Nat)), some (.int (i : Nat))] τ := by
      intro Q hQ
      refine app_at (i := 3) (vs := vs) rfl hl ?_
      rw [e_tup, es_cons, e_str, es_cons, e_var]
      refine ⟨_, rfl, ?_⟩
      rw [es_nil]
      intro t ht
      have k3 : Kp [] τ (τ.set t (.tup [.str (ordS m i), .int (capN m (i + 1) : Nat)])) := Kp.new ht.1
      have hl3 := k3.list hl
      have ha3 := k3.range ha
      have ht3 : (τ.set t (.tup [.str (ordS m i), .int (capN m (i + 1) : Nat)])) t = some (.tup [.str (ordS m i), .int (capN m (i + 1) : Nat)]) := Sto.set_self _ _ _
      have its3 := hits.keep k3
      show ∃ xs, (τ.set t (.tup [.str (ordS m i), .int (capN m (i + 1) : Nat)])) l = some (.list true xs) ∧ _
      generalize τ.set t (.tup [.str (ordS m i), .int (capN m (i + 1) : Nat)]) = τ3 at *
      refine ⟨vs, hl3, by omega, (fun _ => nofun), ?_⟩
      have k4 : Kp [l] τ3 (τ3.set l (.list true (vs ++ [.ref t]))) := Kp.put hl3 (by simp [keeps])
      rw [hQ]
      refine od_loop k (i + 1) (vs ++ [.ref t]) (its ++ [ordIt m i]) _ _ (Sto.set_self _ _ _) (k4.range ha3) ((its3.keep k4).snoc (ItAt.of (k4.tup ht3) rfl)) (by simp; omega) fun τ' vs' z' b1 b2 b3 => ?_
      rw [show i + (k + 1) = i + 1 + k by omega] at hq
      exact hq τ' vs' z' b1 (by rw [List.append_assoc] at b2; exact b2) ((k3.weak.trans k4).trans b3)
    rw [ss_cons_, s_ite, c_chain, e_int, e_var]
    refine ⟨_, rfl, ?_⟩
    show if decide ((0 : Int) < (m : Nat)) = true then _ else _
    have yes : m ≠ 0 ∧ m ≤ i → capN m i = m ∧ capN m (i + 1) = m ∧ ordS m i = "24" := fun hb => by
      refine ⟨?_, ?_, ?_⟩
      · unfold capN; rw [if_neg hb.1]; omega
      · unfold capN; rw [if_neg hb.1]; omega
      · unfold ordS; rw [if_pos hb]
    have no : ¬(m ≠ 0 ∧ m ≤ i) → capN m i = i ∧ capN m (i + 1) = i + 1 ∧ ordS m i = "00" := fun hb => by
      refine ⟨?_, ?_, ?_⟩
      · unfold capN; split <;> omega
      · unfold capN; split <;> omega
      · unfold ordS; rw [if_neg hb]
    have other : ∀ (Q : PostF), (∀ ε' σ'', Q .next ε' σ'' = goFor (P1.gx n) (wpT (P1.gx n) (.var 5)) (wpSs (P1.gx n) odBody) a (.range N) q ((List.range' (i + 1) k).map fun i => .int (i : Nat)) ε' σ'') → ¬(m ≠ 0 ∧ m ≤ i) →
        wpSs (P1.gx n) (.cons (.asg (.var 4) (.add (.var 4) (.int 1))) (.cons (.expr (.bm (.var 3) .append (.cons (.tup (.cons (.str "00") (.cons (.var 4) .nil))) .nil))) .nil)) Q [v0, v1, some (.int (m : Nat)), some (.ref l), some (.int (capN m i : Nat)), some (.int (i : Nat))] τ := by
      intro Q hQ hb
      obtain ⟨e1, e2, e3⟩ := no hb
      rw [ss_cons_, s_asg, e_add, e_var]
      refine ⟨_, rfl, ?_⟩
      rw [e_int]
      show wpT _ _ (.int ((capN m i : Nat) + 1)) _ _ τ
      rw [t_var]
      refine ⟨by simp, ?_⟩
      dsimp only
      rw [e2, e3] at tell
      rw [e1, ss_cons_]
      exact tell _ fun ε' σ'' => by dsimp only; rw [ss_nil_, hQ]
    by_cases h0 : (0 : Int) < (m : Nat)
    · rw [if_pos (by simpa using h0), e_add, e_var]
      refine ⟨_, rfl, ?_⟩
      rw [e_int]
      show if decide (((m : Nat) : Int) < (capN m i : Nat) + 1) = true then _ else _
      by_cases hb : m ≠ 0 ∧ m ≤ i
      · obtain ⟨e1, e2, e3⟩ := yes hb
        rw [if_pos (by rw [e1]; simp only [decide_eq_true_eq]; omega), ss_cons_]
        rw [e2, e3] at tell
        rw [e1]
        refine tell _ fun ε' σ'' => ?_
        dsimp only
        rw [ss_nil_]
        dsimp only
        rw [ss_nil_]
      · obtain ⟨e1, e2, e3⟩ := no hb
        rw [if_neg (by rw [e1]; simp; omega)]
        exact other _ (fun ε' σ'' => by dsimp only; rw [ss_nil_]) hb
    · rw [if_neg (by simpa using h0), if_neg (by decide)]
      exact other _ (fun ε' σ'' => by dsimp only; rw [ss_nil_]) (by omega)
theorem sp_orddue {r : Addr} {bs : List (Array UInt8)} {m : Nat} {x1 : V} {q : Post} (hr : σ r = some (.list true (bs.map .bytes))) (hbs : bs.length ≤ 50)
    (h : ∀ σ' t l vs, σ' t = some (.tup [.ref l, .int (capN m bs.length : Nat)]) → σ' l = some (.list true vs) → Its σ' vs ((List.range bs.length).map (ordIt m)) → Kp [] σ σ' → q (.ref t) σ') : fnW P1 (n + 1) 190 [.ref r, x1, .int (m : Nat)] q σ := by
  refine ⟨_, rfl, ?_⟩
  show wpSs (P1.gx n) b_law_orders_due _ _ _
  rw [ss_cons_, s_asg, e_tup, es_cons, e_list, es_nil]
  intro l hln
  have k2 : Kp [] σ (σ.set l (.list true [])) := Kp.new hln.1
  have hl2 := Sto.set_self σ l (.list true [])
  have hr2 := k2.list hr
  generalize σ.set l (.list true []) = σ2 at *
  rw [es_cons, e_int, es_nil]
  intro t ht
  have k3 : Kp [] σ2 (σ2.set t (.tup [.ref l, .int 0])) := Kp.new ht.1
  have ht3 := Sto.set_self σ2 t (.tup [.ref l, .int 0])
  have hl3 := k3.list hl2
  have hr3 := k3.list hr2
  generalize σ2.set t (.tup [.ref l, .int 0]) = σ3 at *
  rw [t_rev]
  refine ⟨t, _, rfl, (look_dyn rfl).trans ht3, rfl, ?_⟩
  show wpSs (P1.gx n) _ (retW q) [some (.ref r), some x1, some (.int (m : Nat)), some (.ref l), some (.int 0), none] σ3
  rw [ss_cons_, s_for, e_bi, e_bi, e_var]
  refine ⟨.ref r, rfl, bi_len ((look_dyn rfl).trans hr3) ?_⟩
  rw [List.length_map]
  refine ⟨by omega, by omega, fun a ha => ?_⟩
  have k4 : Kp [] σ3 (σ3.set a (.range ((bs.length : Int)).toNat)) := Kp.new ha.1
  have ha4 := Sto.set_self σ3 a (.range ((bs.length : Int)).toNat)
  have hl4 := k4.list hl3
  generalize σ3.set a (.range ((bs.length : Int)).toNat) = σ4 at *
  rw [Int.toNat_natCast] at ha4
  refine ⟨a, _, _, rfl, (look_dyn rfl).trans ha4, rfl, by rw [List.length_map, List.length_range]; omega, ?_⟩
  rw [List.range_eq_range']
  have cap0 : capN m 0 = 0 := by unfold capN; split <;> omega
  have lp := od_loop (n := n) (l := l) (a := a) (v0 := some (.ref r)) (v1 := some x1) (m := m) (N := bs.length) (q := fun f ε' σ' => match f with | .next => wpSs (P1.gx n) (.cons (.ret (.tup (.cons (.var 3) (.cons (.var 4) .nil)))) .nil) (retW q) ε' σ' | f => retW q f ε' σ') bs.length 0 [] [] none σ4 hl4 ha4 .nil (by simp; omega) fun τ vs z' b1 b2 b3 => ?_
  · rw [cap0] at lp; exact lp
  dsimp only
  rw [ss_cons_, s_ret, e_tup, es_cons, e_var]
  refine ⟨_, rfl, ?_⟩
  rw [es_cons, e_var]
  refine ⟨_, rfl, ?_⟩
  rw [es_nil]
  intro t2 ht2
  have k5 : Kp [] τ (τ.set t2 (.tup [.ref l, .int (capN m (0 + bs.length) : Nat)])) := Kp.new ht2.1
  refine h _ t2 l vs ?_ (k5.list b1) (Its.keep ?_ k5) (Kp.drop hln.1 ((((k2.trans k3).trans k4).weak.trans b3).trans k5.weak))
  · rw [show capN m bs.length = capN m (0 + bs.length) by rw [Nat.zero_add]]; exact Sto.set_self _ _ _
  · rw [List.range_eq_range']; simpa using b2
end Mine
end
section
open PySem
set_option Elab.async false
set_option maxRecDepth 100000
namespace Mine
variable {n : Nat} {σ σ' : Sto} {ε : Env0}
theorem ItAt.same (x : V) : ItAt σ x (.at x) := rfl
noncomputable def nats (th : List Nat) : List V := th.map fun a => .int (a : Nat)
noncomputable def handS (m : Nat) (th : List Nat) (a : Nat) : PySem.Str := if m ≠ 0 ∧ m < a + 1 then "24" else if a ∈ th then "22" else "00"
noncomputable def handN (m : Nat) (th : List Nat) (a : Nat) : List Nat := if (m ≠ 0 ∧ m < a + 1) ∨ a ∈ th then th else th ++ [a]
noncomputable def handF (m : Nat) : List Nat → List Nat → List It
  | [], _ => []
  | a :: r, th => .at (.str (handS m th a)) :: handF m r (handN m th a)
noncomputable def handT (m : Nat) : List Nat → List Nat → List Nat
  | [], th => th
  | a :: r, th => handT m r (handN m th a)
noncomputable def thF (bs : List (Array UInt8)) (th : List Nat) : List (Int × V) := th.map fun a => (((a + 1 : Nat) : Int), .bytes (bs.getD a #[]))
theorem thF_keys {bs : List (Array UInt8)} {th : List Nat} : keys (thF bs th) = th.map fun a => ((a + 1 : Nat) : Int) := by
  unfold keys thF
  rw [List.map_map]; rfl
theorem thF_mem {bs : List (Array UInt8)} {th : List Nat} {a : Nat} : ((a + 1 : Nat) : Int) ∈ keys (thF bs th) ↔ a ∈ th := by
  rw [thF_keys, List.mem_map]
  exact ⟨fun ⟨b, hb, e⟩ => by have : b = a := by omega
                              rw [← this]; exact hb, fun h => ⟨a, h, rfl⟩⟩
theorem handF_ok {m : Nat} : ∀ {ord th : List Nat}, ∀ i ∈ handF m ord th, i.ok
  | [], _, i, hi => nomatch hi
  | a :: r, th, i, hi => by
    rcases List.mem_cons.mp (show i ∈ It.at _ :: handF m r _ from hi) with rfl | hi
    · rfl
    · exact handF_ok i hi
theorem wrt_hand {bs : List (Array UInt8)} {m : Nat} {th : List Nat} {a : Nat} {F : Fil} (ha : a < bs.length) (h1 : F.access = "random") (h2 : F.most = (m : Nat)) :
    ∃ N, wrt F (thF bs th) ((a : Nat) + 1) (bs.getD a #[]) = ({ F with last := 0, number := N }, thF bs (handN m th a), handS m th a) := by
  have hj : wrJ F ((a : Nat) + 1) = ((a + 1 : Nat) : Int) := by
    unfold wrJ
    rw [h1, if_neg (by decide +kernel)]; rfl
  unfold wrt wrBad handS handN
  rw [hj, h2]
  by_cases hb : m ≠ 0 ∧ m < a + 1
  · rw [if_pos (by omega), if_pos (.inl hb), if_pos hb]
    exact ⟨F.number, rfl⟩
  · rw [if_neg (by omega), if_neg hb]
    by_cases ht : a ∈ th
    · rw [if_pos (isSome_getE.mpr (thF_mem.mpr ht)), if_pos (.inr ht), if_pos ht]
      exact ⟨F.number, rfl⟩
    · rw [if_neg (fun z => ht (thF_mem.mp (isSome_getE.mp z))), if_neg (by intro z; rcases z with z | z; exact hb z; exact ht z), if_neg ht]
      refine ⟨((a + 1 : Nat) : Int), ?_⟩
      rw [putE_new (fun z => ht (thF_mem.mp z))]
      unfold thF
      rw [List.map_append]; rfl
@[reducible] noncomputable def bhBody : PSs := .cons (.expr (.bm (.var 4) .append (.cons (.meth (.var 5) 1 (.cons (.sub (.var 0) (.var 6)) (.cons (.add (.var 6) (.int 1)) .nil))) .nil))) .nil
theorem bh_loop {r c x l s : Addr} {bs : List (Array UInt8)} {m : Nat} {sv : List V} {v1 v2 : Option V} (hbs : bs.length ≤ 50) (sl : s ≠ l) (rl : r ≠ l) {q : PostF} :
    ∀ (ord th : List Nat) (F : Fil) (vs : List V) (its : List It) (z : Option V) (τ : Sto) (ep : Nat), (∀ a ∈ ord, a < bs.length) → th.length + ord.length ≤ 50 → F.mode = "output" → F.access = "random" → F.most = (m : Nat) → IsF τ x c F → τ c = some (.dict (thF bs th) ep) → τ l = some (.list true vs) → τ s = some (.list true sv) → τ r = some (.list true (bs.map .bytes)) → Its τ vs its → vs.length + ord.length ≤ 200 →
      (∀ τ' vs' z' ep', τ' l = some (.list true vs') → Its τ' vs' (its ++ handF m ord th) → τ' c = some (.dict (thF bs (handT m ord th)) ep') → Kp [c, l] τ τ' → q .next [some (.ref r), v1, v2, some (.ref c), some (.ref l), some (.ref x), z'] τ') →
      goFor (P1.gx (n + 1)) (wpT (P1.gx (n + 1)) (.var 6)) (wpSs (P1.gx (n + 1)) bhBody) s (.list true sv) q (nats ord) [some (.ref r), v1, v2, some (.ref c), some (.ref l), some (.ref x), z] τ
  | [], th, F, vs, its, z, τ, ep, ho, hlen2, h1, h2, h3, hx, hc, hl, hs, hr, hits, hlen, hq => ⟨(look_dyn rfl).trans hs, hq τ vs z ep hl (by simpa [handF] using hits) hc Kp.refl⟩
  | a :: ord, th, F, vs, its, z, τ, ep, ho, hlen2, h1, h2, h3, hx, hc, hl, hs, hr, hits, hlen, hq => by
    have nlc : l ≠ c := fun e => by rw [e, hc] at hl; cases hl
    have nsc : s ≠ c := fun e => by rw [e, hc] at hs; cases hs
    have nrc : r ≠ c := fun e => by rw [e, hc] at hr; cases hr
    have ha := ho a (.head _)
    simp only [List.length_cons] at hlen hlen2
    refine ⟨(look_dyn rfl).trans hs, ?_⟩
    show wpT (P1.gx (n + 1)) (.var 6) (.int (a : Nat)) _ _ τ
    rw [t_var]
    refine ⟨by simp, ?_⟩
    rw [ss_cons_]
    refine app_at (i := 4) (vs := vs) rfl hl ?_
    rw [e_meth, e_var]
    refine ⟨.ref x, rfl, ⟨x, _, rfl, hx⟩, ?_⟩
    rw [es_cons, e_sub, e_var]
    refine ⟨.ref r, rfl, ?_⟩
    rw [e_var]
    refine ⟨.int (a : Nat), rfl, sub_list (y := .bytes (bs.getD a #[])) ((look_dyn rfl).trans hr) (by omega) (by omega) ?_ ?_⟩
    · rw [Int.toNat_natCast, List.getElem?_map, List.getElem?_eq_getElem ha, List.getD_eq_getElem?_getD, List.getElem?_eq_getElem ha]; rfl
    rw [es_cons, e_add, e_var]
    refine ⟨.int (a : Nat), rfl, ?_⟩
    rw [e_int]
    show wpEs _ _ _ _ _
    rw [es_nil]
    obtain ⟨N, hN⟩ := wrt_hand (bs := bs) (m := m) (th := th) ha h2 h3
    refine sp_write (k := (a : Nat) + 1) (b := bs.getD a #[]) rfl hx (.inr ⟨.inl h2, .inl h1⟩) hc (by unfold thF; rw [List.length_map]; omega) fun τ1 ep1 hx1 hc1 k1 => ?_
    rw [hN] at hx1 hc1 ⊢
    dsimp only at hx1 hc1 ⊢
    have hl1 := k1.list hl (by simpa using nlc)
    have hs1 := k1.list hs (by simpa using nsc)
    have hr1 := k1.list hr (by simpa using nrc)
    have its1 := hits.keep k1
    refine ⟨vs, hl1, by omega, (fun _ => nofun), ?_⟩
    have nxl : x ≠ l := IsF.ne_list hx1 hl1
    have s4 : Keep [l] τ1 (τ1.set l (.list true (vs ++ [.str (handS m th a)]))) := keep_set hl1
    have k4 : Kp [c, l] τ1 (τ1.set l (.list true (vs ++ [.str (handS m th a)]))) := Kp.put hl1 (by simp [keeps])
    have hth : (handN m th a).length ≤ th.length + 1 := by unfold handN; split <;> simp
    rw [ss_nil_]
    refine bh_loop hbs sl rl ord (handN m th a) { F with last := 0, number := N } (vs ++ [.str (handS m th a)]) (its ++ [.at (.str (handS m th a))]) _ _ ep1 (fun b hb => ho b (.tail _ hb)) (by omega) h1 h2 h3 (s4 x _ (by simpa using nxl) hx1) (s4 c _ (by simpa using nlc.symm) hc1) (Sto.set_self _ _ _) (s4 s _ (by simpa using sl) hs1) (s4 r _ (by simpa using rl) hr1) ((its1.keep k4).snoc (ItAt.same _)) (by simp; omega) fun τ' vs' z' ep' b1 b2 b3 b4 => ?_
    refine hq τ' vs' z' ep' b1 ?_ b3 (((k1.mono (by simp)).trans k4).trans b4)
    rw [List.append_assoc] at b2
    exact b2
theorem sp_byhand {r o : Addr} {bs : List (Array UInt8)} {ord : List Nat} {m : Nat} {q : Post} (hr : σ r = some (.list true (bs.map .bytes))) (ho : σ o = some (.list true (nats ord))) (hbs : bs.length ≤ 50) (hord : ∀ a ∈ ord, a < bs.length) (hlen : ord.length ≤ 50)
    (h : ∀ σ' t c l vs ep, σ' t = some (.tup [.ref c, .ref l]) → σ' c = some (.dict (thF bs (handT m ord [])) ep) → σ' l = some (.list true vs) → Its σ' vs (handF m ord []) → Kp [] σ σ' → σ c = none → σ l = none → q (.ref t) σ') : fnW P1 (n + 5) 183 [.ref r, .ref o, .int (m : Nat)] q σ := by
  refine ⟨_, rfl, ?_⟩
  show wpSs (P1.gx (n + 4)) b_law_by_hand _ _ _
  rw [ss_cons_, s_asg, e_tup, es_cons, e_dict, ds_cons, e_int]
  refine ⟨9, rfl, ?_⟩
  rw [e_bytes, ds_nil]
  intro c hcn epc
  show wpEs _ _ _ _ (σ.set c (.dict [(9, .bytes [101, 108, 100, 101, 114].toArray)] epc))
  have k1 : Kp [] σ (σ.set c (.dict [(9, .bytes [101, 108, 100, 101, 114].toArray)] epc)) := Kp.new hcn.1
  have hc1 := Sto.set_self σ c (.dict [(9, .bytes [101, 108, 100, 101, 114].toArray)] epc)
  have hr1 := k1.list hr
  have ho1 := k1.list ho
  generalize σ.set c (.dict [(9, .bytes [101, 108, 100, 101, 114].toArray)] epc) = σ1 at *
  rw [es_cons, e_list, es_nil]
  intro l hln
  have k2 : Kp [] σ1 (σ1.set l (.list true [])) := Kp.new hln.1
  have hl2 := Sto.set_self σ1 l (.list true [])
  have hc2 := k2.dict hc1
  have hr2 := k2.list hr1
  have ho2 := k2.list ho1
  have nrl : r ≠ l := fun e => by have := hln.1; rw [← e, hr1] at this; cases this
  have nol : o ≠ l := fun e => by have := hln.1; rw [← e, ho1] at this; cases this
  have nl : σ l = none := k1.2 _ hln.1
  generalize σ1.set l (.list true []) = σ2 at *
  rw [es_nil]
  intro t ht
  have k3 : Kp [] σ2 (σ2.set t (.tup [.ref c, .ref l])) := Kp.new ht.1
  have ht3 := Sto.set_self σ2 t (.tup [.ref c, .ref l])
  have hc3 := k3.dict hc2
  have hl3 := k3.list hl2
  have hr3 := k3.list hr2
  have ho3 := k3.list ho2
  have kk3 : Kp [] σ _ := (k1.trans k2).trans k3
  generalize σ2.set t (.tup [.ref c, .ref l]) = σ3 at *
  rw [t_rev]
  refine ⟨t, _, rfl, (look_dyn rfl).trans ht3, rfl, ?_⟩
  show wpSs (P1.gx (n + 4)) _ (retW q) [some (.ref r), some (.ref o), some (.int (m : Nat)), some (.ref c), some (.ref l), none, none] σ3
  have nlc : l ≠ c := fun e => by rw [e, hc3] at hl3; cases hl3
  have nrc : r ≠ c := fun e => by rw [e, hc3] at hr3; cases hr3
  have noc : o ≠ c := fun e => by rw [e, hc3] at ho3; cases ho3
  rw [ss_cons_, s_asg, e_fnW, es_cons, e_var]
  refine ⟨.ref c, rfl, ?_⟩
  rw [es_cons, e_str, es_cons, e_str, es_cons, e_var]
  refine ⟨_, rfl, ?_⟩
  rw [es_nil]
  refine sp_file (n := n + 1) (most := (m : Nat)) (fun x => rfl) hc3 (by simp) (fun z => absurd z (by decide +kernel)) fun σ4 x ep4 hx4 hc4 k4 _ => ?_
  rw [if_pos (by decide +kernel)] at hc4
  have hl4 := k4.list hl3 (by simpa using nlc)
  have hr4 := k4.list hr3 (by simpa using nrc)
  have ho4 := k4.list ho3 (by simpa using noc)
  have kk4 : Kp [c] σ σ4 := kk3.weak.trans k4
  rw [t_var]
  refine ⟨by simp, ?_⟩
  dsimp only
  rw [ss_cons_, s_for, e_var]
  refine ⟨.ref o, rfl, o, _, _, rfl, (look_dyn rfl).trans ho4, rfl, by unfold nats; rw [List.length_map]; omega, ?_⟩
  refine bh_loop (n := n + 3) (m := m) hbs nol nrl ord [] _ [] [] none σ4 ep4 hord (by simp; omega) rfl rfl rfl hx4 hc4 hl4 ho4 hr4 .nil (by simp; omega) fun τ vs z' ep' b1 b2 b3 b4 => ?_
  dsimp only
  rw [ss_cons_, s_ret, e_tup, es_cons, e_var]
  refine ⟨_, rfl, ?_⟩
  rw [es_cons, e_var]
  refine ⟨_, rfl, ?_⟩
  rw [es_nil]
  intro t2 ht2
  have k10 : Kp [] τ (τ.set t2 (.tup [.ref c, .ref l])) := Kp.new ht2.1
  have kk : Kp [c, l] σ (τ.set t2 (.tup [.ref c, .ref l])) := ((kk4.mono (by simp)).trans b4).trans k10.weak
  exact h _ t2 c l vs ep' (Sto.set_self _ _ _) (k10.dict b3) (k10.list b1) (Its.keep (by simpa using b2) k10) (Kp.drop nl (Kp.drop hcn.1 kk)) hcn.1 nl
theorem mem_nats {a : Nat} : ∀ {th : List Nat}, memV (.int (a : Nat)) (nats th) = some (decide (a ∈ th))
  | [] => by simp [nats, memV]
  | b :: r => by
    show memV (.int (a : Nat)) (.int (b : Nat) :: nats r) = _
    unfold memV
    rw [mem_nats (th := r)]
    show some (((b : Nat) : Int) == ((a : Nat) : Int) || decide (a ∈ r)) = _
    congr 1
    by_cases h : a = b
    · subst h; simp
    · have : (((b : Nat) : Int) == ((a : Nat) : Int)) = false := by simp; omega
      rw [this]
      simp [h]
theorem in_nats {h : Addr} {th : List Nat} {a : Nat} {q : Bool → Sto → Prop} (hh : σ h = some (.list true (nats th))) (hq : q (decide (a ∈ th)) σ) : opW (P1.gx n) .isIn (.int (a : Nat)) (.ref h) q σ := by
  refine ⟨_, ?_, hq⟩
  unfold inV
  dsimp only
  rw [look_dyn rfl, hh]
  exact mem_nats
@[reducible] noncomputable def hdBody : PSs := .cons (.ite (.chain (.int 0) .lt (.var 2) .lt (.add (.var 5) (.int 1))) (.cons (.expr (.bm (.var 3) .append (.cons (.str "24") .nil))) .nil) (.cons (.ite (.cmp .isIn (.var 5) (.var 4)) (.cons (.expr (.bm (.var 3) .append (.cons (.str "22") .nil))) .nil) (.cons (.expr (.bm (.var 3) .append (.cons (.str "00") .nil))) (.cons (.expr (.bm (.var 4) .append (.cons (.var 5) .nil))) .nil))) .nil)) .nil
theorem hd_loop {l t s : Addr} {m : Nat} {sv : List V} {v0 v1 : Option V} (sl : s ≠ l) (st : s ≠ t) (lt : l ≠ t) {q : PostF} :
    ∀ (ord th : List Nat) (vs : List V) (its : List It) (z : Option V) (τ : Sto), τ l = some (.list true vs) → τ t = some (.list true (nats th)) → τ s = some (.list true sv) → Its τ vs its → vs.length + ord.length ≤ 200 → th.length + ord.length ≤ 200 →
      (∀ τ' vs' z', τ' l = some (.list true vs') → Its τ' vs' (its ++ handF m ord th) → τ' t = some (.list true (nats (handT m ord th))) → Kp [l, t] τ τ' → q .next [v0, v1, some (.int (m : Nat)), some (.ref l), some (.ref t), z'] τ') →
      goFor (P1.gx n) (wpT (P1.gx n) (.var 5)) (wpSs (P1.gx n) hdBody) s (.list true sv) q (nats ord) [v0, v1, some (.int (m : Nat)), some (.ref l), some (.ref t), z] τ
  | [], th, vs, its, z, τ, hl, ht, hs, hits, hlen, hlen2, hq => ⟨(look_dyn rfl).trans hs, hq τ vs z hl (by simpa [handF] using hits) ht Kp.refl⟩
  | a :: ord, th, vs, its, z, τ, hl, ht, hs, hits, hlen, hlen2, hq => by
    simp only [List.length_cons] at hlen hlen2
    refine ⟨(look_dyn rfl).trans hs, ?_⟩
    show wpT (P1.gx n) (.var 5) (.int (a : Nat)) _ _ τ
    rw [t_var]
    refine ⟨by simp, ?_⟩
    -- what is behind the answer told
    have next : ∀ (τ' : Sto) (st' : PySem.Str), st' = handS m th a → τ' l = some (.list true (vs ++ [.str st'])) → τ' t = some (.list true (nats (handN m th a))) → Kp [l, t] τ τ' →
        goFor (P1.gx n) (wpT (P1.gx n) (.var 5)) (wpSs (P1.gx n) hdBody) s (.list true sv) q (nats ord) [v0, v1, some (.int (m : Nat)), some (.ref l), some (.ref t), some (.int (a : Nat))] τ' := by
      rintro τ' _ rfl h1 h2 k
      have hth : (handN m th a).length ≤ th.length + 1 := by unfold handN; split <;> simp
      refine hd_loop sl st lt ord (handN m th a) _ (its ++ [.at (.str (handS m th a))]) _ τ' h1 h2 (k.list hs (by simp [sl, st])) ((hits.keep k).snoc (ItAt.same _)) (by simp; omega) (by omega) fun τ2 vs2 z2 b1 b2 b3 b4 => ?_
      exact hq τ2 vs2 z2 b1 (by rw [List.append_assoc] at b2; exact b2) b3 (k.trans b4)
    have tell : ∀ (st' : PySem.Str) (Q : PostF), Q .next [v0, v1, some (.int (m : Nat)), some (.ref l), some (.ref t), some (.int (a : Nat))] (τ.set l (.list true (vs ++ [.str st']))) → wpS (P1.gx n) (.expr (.bm (.var 3) .append (.cons (.str st') .nil))) Q [v0, v1, some (.int (m : Nat)), some (.ref l), some (.ref t), some (.int (a : Nat))] τ := by
      intro st' Q hQ
      refine app_at (i := 3) (vs := vs) rfl hl ?_
      rw [e_str]
      exact ⟨vs, hl, by omega, (fun _ => nofun), hQ⟩
    have kl : ∀ st' : PySem.Str, Kp [l, t] τ (τ.set l (.list true (vs ++ [.str st']))) := fun st' => Kp.put hl (by simp [keeps])
    have tk : ∀ st' : PySem.Str, (τ.set l (.list true (vs ++ [.str st']))) t = some (.list true (nats th)) := fun st' => by rw [Sto.set_ne _ _ (Ne.symm lt)]; exact ht
    have other : ∀ (Q : PostF), ¬(m ≠ 0 ∧ m < a + 1) → (∀ ε' σ'', Q .next ε' σ'' = goFor (P1.gx n) (wpT (P1.gx n) (.var 5)) (wpSs (P1.gx n) hdBody) s (.list true sv) q (nats ord) ε' σ'') →
        wpSs (P1.gx n) (.cons (.ite (.cmp .isIn (.var 5) (.var 4)) (.cons (.expr (.bm (.var 3) .append (.cons (.str "22") .nil))) .nil) (.cons (.expr (.bm (.var 3) .append (.cons (.str "00") .nil))) (.cons (.expr (.bm (.var 4) .append (.cons (.var 5) .nil))) .nil))) .nil) Q [v0, v1, some (.int (m : Nat)), some (.ref l), some (.ref t), some (.int (a : Nat))] τ := by
      intro Q hb hQ
      rw [ss_cons_, s_ite, c_cmp, e_var]
      refine ⟨_, rfl, ?_⟩
      rw [e_var]
      refine ⟨_, rfl, in_nats ht ?_⟩
      by_cases hin : a ∈ th
      · rw [if_pos (by simpa using hin), ss_cons_]
        refine tell "22" _ ?_
        dsimp only
        rw [ss_nil_]
        dsimp only
        rw [ss_nil_, hQ]
        exact next _ "22" (by unfold handS; rw [if_neg hb, if_pos hin]) (Sto.set_self _ _ _) (by rw [tk]; unfold handN; rw [if_pos (.inr hin)]) (kl _)
      · rw [if_neg (by simpa using hin), ss_cons_]
        refine tell "00" _ ?_
        dsimp only
        rw [ss_cons_]
        refine app_at (i := 4) (vs := nats th) rfl (tk _) ?_
        rw [e_var]
        refine ⟨_, rfl, _, tk _, by unfold nats; rw [List.length_map]; omega, (fun _ => nofun), ?_⟩
        dsimp only
        rw [ss_nil_]
        dsimp only
        rw [ss_nil_, hQ]
        refine next _ "00" (by unfold handS; rw [if_neg hb, if_neg hin]) (by rw [Sto.set_ne _ _ lt]; exact Sto.set_self _ _ _) ?_ ((kl "00").trans (Kp.put (tk _) (by simp [keeps])))
        rw [Sto.set_self]
        unfold handN nats
        rw [if_neg (by intro z; rcases z with z | z; exact hb z; exact hin z), List.map_append]; rfl
    rw [ss_cons_, s_ite, c_chain, e_int, e_var]
    refine ⟨_, rfl, ?_⟩
    show if decide ((0 : Int) < (m : Nat)) = true then _ else _
    by_cases h0 : (0 : Int) < (m : Nat)
    · rw [if_pos (by simpa using h0), e_add, e_var]
      refine ⟨_, rfl, ?_⟩
      rw [e_int]
      show if decide (((m : Nat) : Int) < (a : Nat) + 1) = true then _ else _
      by_cases hb : m ≠ 0 ∧ m < a + 1
      · rw [if_pos (by simp only [decide_eq_true_eq]; omega), ss_cons_]
        refine tell "24" _ ?_
        dsimp only
        rw [ss_nil_]
        dsimp only
        rw [ss_nil_]
        exact next _ "24" (by unfold handS; rw [if_pos hb]) (Sto.set_self _ _ _) (by rw [tk]; unfold handN; rw [if_pos (.inl hb)]) (kl _)
      · rw [if_neg (by simp only [decide_eq_true_eq]; omega)]
        exact other _ hb fun ε' σ'' => by dsimp only; rw [ss_nil_]; rfl
    · rw [if_neg (by simpa using h0), if_neg (by decide)]
      exact other _ (by omega) fun ε' σ'' => by dsimp only; rw [ss_nil_]; rfl
theorem sp_handdue {o : Addr} {ord : List Nat} {m : Nat} {x0 : V} {q : Post} (ho : σ o = some (.list true (nats ord))) (hlen : ord.length ≤ 50)
    (h : ∀ σ' t l u vs, σ' t = some (.tup [.ref l, .ref u]) → σ' l = some (.list true vs) → Its σ' vs (handF m ord []) → σ' u = some (.list true (nats (handT m ord []))) → Kp [] σ σ' → q (.ref t) σ') : fnW P1 (n + 1) 197 [x0, .ref o, .int (m : Nat)] q σ := by
  refine ⟨_, rfl, ?_⟩
  show wpSs (P1.gx n) b_law_hands_due _ _ _
  rw [ss_cons_, s_asg, e_tup, es_cons, e_list, es_nil]
  intro l hln
  have k1 : Kp [] σ (σ.set l (.list true [])) := Kp.new hln.1
  have hl1 := Sto.set_self σ l (.list true [])
  have ho1 := k1.list ho
  have nol : o ≠ l := fun e => by have := hln.1; rw [← e, ho] at this; cases this
  generalize σ.set l (.list true []) = σ1 at *
  rw [es_cons, e_list, es_nil]
  intro u hun
  have k2 : Kp [] σ1 (σ1.set u (.list true [])) := Kp.new hun.1
  have hu2 := Sto.set_self σ1 u (.list true [])
  have hl2 := k2.list hl1
  have ho2 := k2.list ho1
  have nou : o ≠ u := fun e => by have := hun.1; rw [← e, ho1] at this; cases this
  have nlu : l ≠ u := fun e => by have := hun.1; rw [← e, hl1] at this; cases this
  have nu : σ u = none := k1.2 _ hun.1
  generalize σ1.set u (.list true []) = σ2 at *
  rw [es_nil]
  intro t ht
  have k3 : Kp [] σ2 (σ2.set t (.tup [.ref l, .ref u])) := Kp.new ht.1
  have ht3 := Sto.set_self σ2 t (.tup [.ref l, .ref u])
  have hl3 := k3.list hl2
  have hu3 := k3.list hu2
  have ho3 := k3.list ho2
  generalize σ2.set t (.tup [.ref l, .ref u]) = σ3 at *
  rw [t_rev]
  refine ⟨t, _, rfl, (look_dyn rfl).trans ht3, rfl, ?_⟩
  show wpSs (P1.gx n) _ (retW q) [some x0, some (.ref o), some (.int (m : Nat)), some (.ref l), some (.ref u), none] σ3
  rw [ss_cons_, s_for, e_var]
  refine ⟨.ref o, rfl, o, _, _, rfl, (look_dyn rfl).trans ho3, rfl, by unfold nats; rw [List.length_map]; omega, ?_⟩
  refine hd_loop (m := m) nol nou nlu ord [] [] [] none σ3 hl3 hu3 ho3 .nil (by simp; omega) (by simp; omega) fun τ vs z' b1 b2 b3 b4 => ?_
  dsimp only
  rw [ss_cons_, s_ret, e_tup, es_cons, e_var]
  refine ⟨_, rfl, ?_⟩
  rw [es_cons, e_var]
  refine ⟨_, rfl, ?_⟩
  rw [es_nil]
  intro t2 ht2
  have k5 : Kp [] τ (τ.set t2 (.tup [.ref l, .ref u])) := Kp.new ht2.1
  exact h _ t2 l u vs (Sto.set_self _ _ _) (k5.list b1) (Its.keep (by simpa using b2) k5) (k5.list b3) (Kp.drop nu (Kp.drop hln.1 (((((k1.trans k2).trans k3).weak.trans b4).trans k5.weak).mono (by simp))))
end Mine
end
section
open PySem
set_option Elab.async false
set_option maxRecDepth 100000
namespace Mine
variable {n : Nat} {σ σ' : Sto} {ε : Env0}
theorem wrt_next {F : Fil} {es : List (Int × V)} {k : Int} {b : Array UInt8} (ha : F.access = "sequential") (hm : F.most = 0) (h0 : 0 ≤ F.number) (hk : ∀ k ∈ keys es, k ≤ F.number) : wrt F es k b = ({ F with last := 0, number := F.number + 1 }, es ++ [(F.number + 1, .bytes b)], ("00" : PySem.Str)) := by
  have hj : wrJ F k = F.number + 1 := by unfold wrJ; rw [ha, if_pos (by decide +kernel)]
  have hno : F.number + 1 ∉ keys es := fun z => by have := hk _ z; omega
  unfold wrt wrBad
  rw [hj, hm, if_neg (by omega), if_neg (fun z => hno (isSome_getE.mp z)), putE_new hno]
noncomputable def gapN (es : List (Int × V)) (a : Nat) : List (Int × V) := if ((a : Nat) : Int) ∈ keys es then es else es ++ [(((a : Nat) : Int), V.bytes [UInt8.ofNat a].toArray)]
theorem wrt_gap {F : Fil} {es : List (Int × V)} {a : Nat} (h1 : F.access = "dynamic") (h2 : F.most = 0) (ha : 0 < a) : ∃ N s, wrt F es (a : Nat) [UInt8.ofNat a].toArray = ({ F with last := 0, number := N }, gapN es a, s) := by
  have hj : wrJ F (a : Nat) = (a : Nat) := by unfold wrJ; rw [h1, if_neg (by decide +kernel)]
  unfold wrt wrBad gapN
  rw [hj, h2, if_neg (by omega)]
  by_cases h : ((a : Nat) : Int) ∈ keys es
  · rw [if_pos (isSome_getE.mpr h), if_pos h]
    exact ⟨F.number, _, rfl⟩
  · rw [if_neg (fun z => h (isSome_getE.mp z)), if_neg h, putE_new h]
    exact ⟨_, _, rfl⟩
structure Gap (es : List (Int × V)) (done : List Nat) : Prop where
  nodup : (keys es).Nodup
  mem : ∀ k, k ∈ keys es ↔ ∃ a ∈ done, k = ((a : Nat) : Int)
  oct : Oct es
  few : es.length ≤ done.length
theorem keys_snoc {es : List (Int × V)} {k : Int} {x : V} : keys (es ++ [(k, x)]) = keys es ++ [k] := by unfold keys; rw [List.map_append]; rfl
theorem Oct.snoc {es : List (Int × V)} {k : Int} {b : Array UInt8} (h : Oct es) : Oct (es ++ [(k, .bytes b)]) := fun p hp => by
  rcases List.mem_append.mp hp with z | z
  · exact h p z
  · rw [List.mem_singleton] at z; subst z; exact ⟨b, rfl⟩
theorem nodup_snoc {ks : List Int} {k : Int} (h : ks.Nodup) (hk : k ∉ ks) : (ks ++ [k]).Nodup := by
  rw [List.nodup_append]
  refine ⟨h, by simp, fun a ha b hb => ?_⟩
  rw [List.mem_singleton] at hb
  intro e; rw [e, hb] at ha; exact hk ha
theorem Gap.step {es : List (Int × V)} {done : List Nat} (g : Gap es done) (a : Nat) : Gap (gapN es a) (done ++ [a]) := by
  unfold gapN
  by_cases h : ((a : Nat) : Int) ∈ keys es
  · rw [if_pos h]
    refine ⟨g.nodup, fun k => ?_, g.oct, by have := g.few; simp; omega⟩
    rw [g.mem]
    constructor
    · rintro ⟨b, hb, e⟩; exact ⟨b, by simp [hb], e⟩
    · rintro ⟨b, hb, e⟩
      rcases List.mem_append.mp hb with z | z
      · exact ⟨b, z, e⟩
      · rw [List.mem_singleton] at z; subst z; rw [e]; exact (g.mem _).mp h
  · rw [if_neg h]
    refine ⟨by rw [keys_snoc]; exact nodup_snoc g.nodup h, fun k => ?_, g.oct.snoc, by have := g.few; simp; omega⟩
    rw [keys_snoc, List.mem_append, g.mem, List.mem_singleton]
    constructor
    · rintro (⟨b, hb, e⟩ | e)
      · exact ⟨b, by simp [hb], e⟩
      · exact ⟨a, by simp, e⟩
    · rintro ⟨b, hb, e⟩
      rcases List.mem_append.mp hb with z | z
      · exact .inl ⟨b, z, e⟩
      · rw [List.mem_singleton] at z; subst z; exact .inr e
theorem gap_loop {s c x : Addr} {sv : List V} {v1 e5 e6 e7 e8 e9 : Option V} {q : PostF} :
    ∀ (sp done : List Nat) (F : Fil) (es : List (Int × V)) (z : Option V) (τ : Sto) (ep : Nat), (∀ a ∈ sp, 0 < a ∧ a < 256) → done.length + sp.length ≤ 50 → F.mode = "i-o" → F.access = "dynamic" → F.most = 0 → IsF τ x c F → τ c = some (.dict es ep) → τ s = some (.list true sv) → Gap es done →
      (∀ τ' z' es' ep', τ' c = some (.dict es' ep') → Gap es' (done ++ sp) → Kp [c] τ τ' → q .next [some (.ref s), v1, some (.ref c), some (.ref x), z', e5, e6, e7, e8, e9] τ') →
      goFor (P1.gx (n + 1)) (wpT (P1.gx (n + 1)) (.var 4)) (wpSs (P1.gx (n + 1)) (.cons (.expr (.meth (.var 3) 1 (.cons (.bi .bytes (.list (.cons (.var 4) .nil))) (.cons (.var 4) .nil)))) .nil)) s (.list true sv) q (nats sp) [some (.ref s), v1, some (.ref c), some (.ref x), z, e5, e6, e7, e8, e9] τ
  | [], done, F, es, z, τ, ep, hsp, hlen, h1, h2, h3, hx, hc, hs, g, hq => ⟨(look_dyn rfl).trans hs, hq τ z es ep hc (by rw [List.append_nil]; exact g) Kp.refl⟩
  | a :: sp, done, F, es, z, τ, ep, hsp, hlen, h1, h2, h3, hx, hc, hs, g, hq => by
    have nsc : s ≠ c := fun e => by rw [e, hc] at hs; cases hs
    obtain ⟨a0, a1⟩ := hsp a (.head _)
    have hfew := g.few
    simp only [List.length_cons] at hlen
    refine ⟨(look_dyn rfl).trans hs, ?_⟩
    show wpT (P1.gx (n + 1)) (.var 4) (.int (a : Nat)) _ _ τ
    rw [t_var]
    refine ⟨by simp, ?_⟩
    rw [ss_cons_, s_expr, e_meth, e_var]
    refine ⟨.ref x, rfl, ⟨x, _, rfl, hx⟩, ?_⟩
    rw [es_cons, e_bi, e_list, es_cons, e_var]
    refine ⟨_, rfl, ?_⟩
    rw [es_nil]
    intro l hl
    have k1 : Kp [] τ (τ.set l (.list true [.int (a : Nat)])) := Kp.new hl.1
    have hl1 := Sto.set_self τ l (.list true [.int (a : Nat)])
    have hx1 := Keep.new (X := []) hl.1 (o := .list true [.int (a : Nat)]) x _ (fun z => nomatch z) hx
    have hc1 := k1.dict hc
    have hs1 := k1.list hs
    generalize τ.set l (.list true [.int (a : Nat)]) = τ1 at *
    refine ⟨true, _, [((a : Nat) : Int)], [UInt8.ofNat a], (look_dyn rfl).trans hl1, rfl, ?_, by simp, ?_⟩
    · unfold octets
      rw [if_pos (by omega)]; rfl
    dsimp only
    rw [es_cons, e_var]
    refine ⟨_, rfl, ?_⟩
    rw [es_nil]
    obtain ⟨N, st, hN⟩ := wrt_gap (es := es) h2 h3 a0
    refine sp_write (k := (a : Nat)) (b := [UInt8.ofNat a].toArray) rfl hx1 (.inr ⟨.inr h2, .inr h1⟩) hc1 (by omega) fun τ2 ep2 hx2 hc2 k2 => ?_
    rw [hN] at hx2 hc2 ⊢
    dsimp only at hx2 hc2 ⊢
    refine ⟨(fun _ => nofun), ?_⟩
    rw [ss_nil_]
    refine gap_loop sp (done ++ [a]) { F with last := 0, number := N } (gapN es a) _ τ2 ep2 (fun b hb => hsp b (.tail _ hb)) (by simp; omega) h1 h2 h3 hx2 hc2 (k2.list hs1 (by simpa using nsc)) (g.step a) fun τ' z' es' ep' b1 b2 b3 => ?_
    exact hq τ' z' es' ep' b1 (by rw [List.append_assoc] at b2; exact b2) ((k1.weak.trans k2).trans b3)
theorem greatest_eq {es : List (Int × V)} {sp : List Nat} (g : Gap es sp) (hsp : ∀ a ∈ sp, 0 < a) : maxK (keys es) = (sp.map fun a => ((a : Nat) : Int)).foldl max 0 ∧ 0 ≤ (sp.map fun a => ((a : Nat) : Int)).foldl max 0 ∧ ∀ k ∈ keys es, k ≤ (sp.map fun a => ((a : Nat) : Int)).foldl max 0 := by
  obtain ⟨h1, h2⟩ := foldl_max_ge (sp.map fun a => ((a : Nat) : Int)) 0
  have hk : ∀ k ∈ keys es, k ≤ (sp.map fun a => ((a : Nat) : Int)).foldl max 0 := fun k hk => by
    obtain ⟨a, ha, e⟩ := (g.mem k).mp hk
    exact h2 k (List.mem_map.mpr ⟨a, ha, e.symm⟩)
  refine ⟨?_, h1, hk⟩
  cases sp with
  | nil =>
    have : keys es = [] := List.eq_nil_iff_forall_not_mem.mpr fun k hk => by obtain ⟨a, ha, _⟩ := (g.mem k).mp hk; cases ha
    rw [this]; rfl
  | cons a r =>
    refine maxK_eq ((g.mem _).mpr ?_) hk
    rcases foldl_max_mem ((a :: r).map fun a => ((a : Nat) : Int)) 0 with e | e
    · have := h2 ((a : Nat) : Int) (List.mem_map.mpr ⟨a, .head _, rfl⟩)
      have := hsp a (.head _)
      omega
    · obtain ⟨b, hb, e'⟩ := List.mem_map.mp e
      exact ⟨b, hb, e'.symm⟩
theorem sp_gaps {s : Addr} {sp : List Nat} {row : Array UInt8} {q : Post} (hs : σ s = some (.list true (nats sp))) (hsp : ∀ a ∈ sp, 0 < a ∧ a < 256) (hlen : sp.length ≤ 40) (hrow : row.size ≤ 1000)
    (h : ∀ σ', Kp [] σ σ' → q (.bool true) σ') : fnW P1 (n + 4) 204 [.ref s, .bytes row] q σ := by
  refine ⟨_, rfl, ?_⟩
  show wpSs (P1.gx (n + 3)) b_law_gaps_right _ ([some (.ref s), some (.bytes row), none, none, none, none, none, none, none, none] : Env0) σ
  rw [ss_cons_, s_asg, e_dict, ds_nil]
  intro c hcn epc
  show wpT _ _ _ _ _ (σ.set c (.dict [] epc))
  have k1 : Kp [] σ (σ.set c (.dict [] epc)) := Kp.new hcn.1
  have hc1 := Sto.set_self σ c (.dict [] epc)
  have hs1 := k1.list hs
  generalize σ.set c (.dict [] epc) = σ1 at *
  rw [t_var]
  refine ⟨by simp, ?_⟩
  have nsc : s ≠ c := fun e => by rw [e, hc1] at hs1; cases hs1
  show wpSs (P1.gx (n + 3)) _ (retW q) ([some (.ref s), some (.bytes row), some (.ref c), none, none, none, none, none, none, none] : Env0) σ1
  rw [ss_cons_, s_asg, e_fnW, es_cons, e_var]
  refine ⟨_, rfl, ?_⟩
  rw [es_cons, e_str, es_cons, e_str, es_nil]
  refine sp_file (n := n) (most := 0) (fun x => rfl) hc1 (by simp) (fun z => absurd z (by decide +kernel)) fun σ2 x ep2 hx2 hc2 k2 _ => ?_
  rw [if_neg (by decide +kernel)] at hc2
  have hs2 := k2.list hs1 (by simpa using nsc)
  rw [t_var]
  refine ⟨by simp, ?_⟩
  show wpSs (P1.gx (n + 3)) _ (retW q) ([some (.ref s), some (.bytes row), some (.ref c), some (.ref x), none, none, none, none, none, none] : Env0) σ2
  rw [ss_cons_, s_for, e_var]
  refine ⟨_, rfl, s, _, _, rfl, (look_dyn rfl).trans hs2, rfl, by unfold nats; rw [List.length_map]; omega, ?_⟩
  refine gap_loop (n := n + 2) sp [] _ [] none σ2 ep2 hsp (by simp; omega) rfl rfl rfl hx2 hc2 hs2 ⟨by simp [keys], fun k => by simp [keys], (fun p hp => nomatch hp), Nat.le_refl _⟩ fun σ3 z3 es ep3 hc3 g k3 => ?_
  rw [List.nil_append] at g
  obtain ⟨hmax, hg0, hgk⟩ := greatest_eq g fun a ha => (hsp a ha).1
  generalize hgr : (sp.map fun a => ((a : Nat) : Int)).foldl max 0 = gr at *
  have hs3 := k3.list hs2 (by simpa using nsc)
  have hfew := g.few
  have kk3 : Kp [c] σ σ3 := (k1.weak.trans k2).trans k3
  dsimp only
  rw [ss_cons_, s_asg, e_bi, e_var]
  refine ⟨_, rfl, bi_dict ((look_dyn rfl).trans hc3) (by omega) fun b hb epb => ?_⟩
  have k4 : Kp [] σ3 (σ3.set b (.dict es epb)) := Kp.new hb.1
  have hb4 := Sto.set_self σ3 b (.dict es epb)
  have hc4 := k4.dict hc3
  have hs4 := k4.list hs3
  have nbc : b ≠ c := fun e => by have := hb.1; rw [e, hc3] at this; cases this
  have kk4 : Kp [c] σ _ := kk3.trans k4.weak
  generalize σ3.set b (.dict es epb) = σ4 at *
  rw [t_var]
  refine ⟨by simp, ?_⟩
  show wpSs (P1.gx (n + 3)) _ (retW q) ([some (.ref s), some (.bytes row), some (.ref c), some (.ref x), z3, some (.ref b), none, none, none, none] : Env0) σ4
  rw [ss_cons_, s_asg, e_fnW, es_cons, e_var]
  refine ⟨_, rfl, ?_⟩
  rw [es_cons, e_str, es_cons, e_str, es_nil]
  refine sp_file (n := n) (most := 0) (fun x => rfl) hc4 (by omega) (fun _ => rfl) fun σ5 y ep5 hy5 hc5 k5 _ => ?_
  rw [if_neg (by decide +kernel)] at hc5
  rw [show iniN "extend" es = gr from by unfold iniN; rw [if_pos (by decide +kernel), hmax]] at hy5
  have hs5 := k5.list hs4 (by simpa using nsc)
  have hb5 := k5.dict hb4 (by simpa using nbc)
  have kk5 : Kp [c] σ σ5 := kk4.trans k5
  rw [t_var]
  refine ⟨by simp, ?_⟩
  show wpSs (P1.gx (n + 3)) _ (retW q) ([some (.ref s), some (.bytes row), some (.ref c), some (.ref x), z3, some (.ref b), some (.ref y), none, none, none] : Env0) σ5
  rw [ss_cons_, s_asg, e_list, es_cons, e_meth, e_var]
  refine ⟨_, rfl, ⟨y, _, rfl, hy5⟩, ?_⟩
  rw [es_cons, e_var]
  refine ⟨_, rfl, ?_⟩
  rw [es_nil]
  refine sp_write (n := n + 2) (k := 0) (b := row) rfl hy5 (.inl ⟨rfl, .inr rfl⟩) hc5 (by omega) fun σ6 ep6 hy6 hc6 k6 => ?_
  rw [wrt_next (F := Fil.fresh "extend" "sequential" 0 gr) rfl rfl hg0 hgk] at hy6 hc6 ⊢
  dsimp only at hy6 hc6 ⊢
  have hy6 : IsF σ6 y c ⟨"extend", "sequential", 0, 1, false, true, 0, gr + 1⟩ := hy6
  have hc6 : σ6 c = some (.dict (es ++ [(gr + 1, V.bytes row)]) ep6) := hc6
  have hgk6 : ∀ k ∈ keys (es ++ [(gr + 1, V.bytes row)]), k ≤ gr + 1 := fun k hk => by
    rw [keys_snoc] at hk
    rcases List.mem_append.mp hk with z | z
    · have := hgk k z; omega
    · rw [List.mem_singleton] at z; omega
  rw [es_cons, e_meth, e_var]
  refine ⟨_, rfl, ⟨y, _, rfl, hy6⟩, ?_⟩
  rw [es_cons, e_add, e_var]
  refine ⟨_, rfl, ?_⟩
  rw [e_bytes]
  refine ⟨by simp; omega, ?_⟩
  dsimp only
  rw [es_nil]
  refine sp_write (n := n + 2) (k := 0) (b := row ++ [50].toArray) rfl hy6 (.inl ⟨rfl, .inr rfl⟩) hc6 (by simp; omega) fun σ7 ep7 hy7 hc7 k7 => ?_
  rw [wrt_next (F := ⟨"extend", "sequential", 0, 1, false, true, 0, gr + 1⟩) rfl rfl (show (0 : Int) ≤ gr + 1 by omega) hgk6] at hy7 hc7 ⊢
  dsimp only at hy7 hc7 ⊢
  have hy7 : IsF σ7 y c ⟨"extend", "sequential", 0, 1, false, true, 0, gr + 1 + 1⟩ := hy7
  have hc7 : σ7 c = some (.dict (es ++ [(gr + 1, V.bytes row)] ++ [(gr + 1 + 1, V.bytes (row ++ [50].toArray))]) ep7) := hc7
  have hs7 := (k6.trans k7).list hs5 (by simpa using nsc)
  have hb7 := (k6.trans k7).dict hb5 (by simpa using nbc)
  have kk7 : Kp [c] σ σ7 := kk5.trans (k6.trans k7)
  rw [es_nil]
  intro l hl
  have k8 : Kp [] σ7 (σ7.set l (.list true [.str "00", .str "00"])) := Kp.new hl.1
  have hl8 := Sto.set_self σ7 l (.list true [.str "00", .str "00"])
  have hy8 := Keep.new (X := []) hl.1 (o := .list true [.str "00", .str "00"]) y _ (fun z => nomatch z) hy7
  have hc8 := k8.dict hc7
  have hs8 := k8.list hs7
  have hb8 := k8.dict hb7
  have kk8 : Kp [c] σ _ := kk7.trans k8.weak
  generalize σ7.set l (.list true [.str "00", .str "00"]) = σ8 at *
  rw [t_var]
  refine ⟨by simp, ?_⟩
  show wpSs (P1.gx (n + 3)) _ (retW q) ([some (.ref s), some (.bytes row), some (.ref c), some (.ref x), z3, some (.ref b), some (.ref y), some (.ref l), none, none] : Env0) σ8
  rw [ss_cons_, s_asg, e_bi, e_var]
  refine ⟨_, rfl, bi_dict ((look_dyn rfl).trans hb8) (by omega) fun d hd epd => ?_⟩
  have k9 : Kp [] σ8 (σ8.set d (.dict es epd)) := Kp.new hd.1
  have hd9 := Sto.set_self σ8 d (.dict es epd)
  have hy9 := Keep.new (X := []) hd.1 (o := .dict es epd) y _ (fun z => nomatch z) hy8
  have hc9 := k9.dict hc8
  have hs9 := k9.list hs8
  have hl9 := k9.list hl8
  have ndc : d ≠ c := fun e => by have := hd.1; rw [e, hc8] at this; cases this
  have nd : σ d = none := kk8.2 _ hd.1
  have kk9 : Kp [c] σ _ := kk8.trans k9.weak
  generalize σ8.set d (.dict es epd) = σ9 at *
  rw [t_var]
  refine ⟨by simp, ?_⟩
  show wpSs (P1.gx (n + 3)) _ (retW q) ([some (.ref s), some (.bytes row), some (.ref c), some (.ref x), z3, some (.ref b), some (.ref y), some (.ref l), some (.ref d), none] : Env0) σ9
  rw [ss_cons_, s_asg, e_bi, e_add, e_list, es_cons, e_int, es_nil]
  intro l0 hl0
  have k10 : Kp [] σ9 (σ9.set l0 (.list true [.int 0])) := Kp.new hl0.1
  have hl10 := Sto.set_self σ9 l0 (.list true [.int 0])
  have hy10 := Keep.new (X := []) hl0.1 (o := .list true [.int 0]) y _ (fun z => nomatch z) hy9
  have hc10 := k10.dict hc9
  have hs10 := k10.list hs9
  have hl10' := k10.list hl9
  have hd10 := k10.dict hd9
  have kk10 : Kp [c] σ _ := kk9.trans k10.weak
  generalize σ9.set l0 (.list true [.int 0]) = σ10 at *
  rw [e_var]
  refine ⟨_, rfl, true, [.int 0], true, nats sp, (look_dyn rfl).trans hl10, (look_dyn rfl).trans hs10, by unfold nats; simp; omega, fun l1 hl1 => ?_⟩
  have k11 : Kp [] σ10 (σ10.set l1 (.list true ([.int 0] ++ nats sp))) := Kp.new hl1.1
  have hl11 := Sto.set_self σ10 l1 (.list true ([.int 0] ++ nats sp))
  have hy11 := Keep.new (X := []) hl1.1 (o := .list true ([.int 0] ++ nats sp)) y _ (fun z => nomatch z) hy10
  have hc11 := k11.dict hc10
  have hl11' := k11.list hl10'
  have hd11 := k11.dict hd10
  have kk11 : Kp [c] σ _ := kk10.trans k11.weak
  generalize σ10.set l1 (.list true ([.int 0] ++ nats sp)) = σ11 at *
  refine ⟨_, _, 0, sp.map fun a => ((a : Nat) : Int), (look_dyn rfl).trans hl11, rfl, (fun _ => nofun), (fun _ => nofun), ?_, by rw [List.length_map]; omega, ?_⟩
  · show (intsOf (nats sp)).map (0 :: ·) = _
    have : nats sp = (sp.map fun a => ((a : Nat) : Int)).map V.int := by unfold nats; rw [List.map_map]; rfl
    rw [this, intsOf_map']; rfl
  rw [hgr]
  dsimp only
  rw [t_var]
  refine ⟨by simp, ?_⟩
  show wpSs (P1.gx (n + 3)) _ (retW q) ([some (.ref s), some (.bytes row), some (.ref c), some (.ref x), z3, some (.ref b), some (.ref y), some (.ref l), some (.ref d), some (.int gr)] : Env0) σ11
  rw [ss_cons_, s_asg, e_tup, es_cons, e_var]
  refine ⟨_, rfl, ?_⟩
  rw [es_cons, e_add, e_var]
  refine ⟨_, rfl, ?_⟩
  rw [e_bytes]
  refine ⟨by simp; omega, ?_⟩
  dsimp only
  rw [es_nil]
  intro t ht
  have k12 : Kp [] σ11 (σ11.set t (.tup [.bytes row, .bytes (row ++ [50].toArray)])) := Kp.new ht.1
  have ht12 := Sto.set_self σ11 t (.tup [.bytes row, .bytes (row ++ [50].toArray)])
  have hy12 := Keep.new (X := []) ht.1 (o := .tup [.bytes row, .bytes (row ++ [50].toArray)]) y _ (fun z => nomatch z) hy11
  have hc12 := k12.dict hc11
  have hl12 := k12.list hl11'
  have hd12 := k12.dict hd11
  have kk12 : Kp [c] σ _ := kk11.trans k12.weak
  generalize σ11.set t (.tup [.bytes row, .bytes (row ++ [50].toArray)]) = σ12 at *
  rw [t_tup]
  refine ⟨t, _, rfl, (look_dyn rfl).trans ht12, rfl, ?_⟩
  rw [ts_cons]
  refine ⟨_, _, rfl, ?_⟩
  rw [t_sub, e_var]
  refine ⟨_, rfl, ?_⟩
  rw [e_add, e_var]
  refine ⟨_, rfl, ?_⟩
  rw [e_int]
  refine ⟨d, gr + 1, es, epd, rfl, rfl, hd12, by omega, fun ep13 => ?_⟩
  rw [putE_new (show gr + 1 ∉ keys es from fun z => by have := hgk _ z; omega)]
  have k13 : Kp [c, d] σ12 (σ12.set d (.dict (es ++ [(gr + 1, .bytes row)]) ep13)) := Kp.put hd12 (by simp [keeps])
  have hd13 := Sto.set_self σ12 d (.dict (es ++ [(gr + 1, .bytes row)]) ep13)
  have nyd : y ≠ d := IsF.ne_dict hy12 hd12
  have hy13 : IsF (σ12.set d (.dict (es ++ [(gr + 1, .bytes row)]) ep13)) y c _ := (Sto.set_ne _ _ nyd).trans hy12
  have hc13 : (σ12.set d (.dict (es ++ [(gr + 1, .bytes row)]) ep13)) c = _ := (Sto.set_ne _ _ (Ne.symm ndc)).trans hc12
  have nld : l ≠ d := fun e => by rw [e, hd12] at hl12; cases hl12
  have hl13 : (σ12.set d (.dict (es ++ [(gr + 1, .bytes row)]) ep13)) l = _ := (Sto.set_ne _ _ nld).trans hl12
  have kk13 : Kp [c, d] σ _ := (kk12.mono (by simp)).trans k13
  generalize σ12.set d (.dict (es ++ [(gr + 1, .bytes row)]) ep13) = σ13 at *
  rw [ts_cons]
  refine ⟨_, _, rfl, ?_⟩
  rw [t_sub, e_var]
  refine ⟨_, rfl, ?_⟩
  rw [e_add, e_var]
  refine ⟨_, rfl, ?_⟩
  rw [e_int]
  refine ⟨d, gr + 2, _, _, rfl, rfl, hd13, by simp; omega, fun ep14 => ?_⟩
  rw [putE_new (show gr + 2 ∉ keys (es ++ [(gr + 1, V.bytes row)]) from fun z => by have := hgk6 _ z; omega)]
  have e2 : gr + 1 + 1 = gr + 2 := by omega
  have hc13 : σ13 c = some (.dict (es ++ [(gr + 1, .bytes row)] ++ [(gr + 2, .bytes (row ++ [50].toArray))]) ep7) := by rw [← e2]; exact hc13
  generalize hE : es ++ [(gr + 1, V.bytes row)] ++ [(gr + 2, V.bytes (row ++ [50].toArray))] = E at *
  have k14 : Kp [c, d] σ13 (σ13.set d (.dict E ep14)) := Kp.put hd13 (by simp [keeps])
  have hd14 := Sto.set_self σ13 d (.dict E ep14)
  have hy14 : IsF (σ13.set d (.dict E ep14)) y c _ := (Sto.set_ne _ _ nyd).trans hy13
  have hc14 : (σ13.set d (.dict E ep14)) c = _ := (Sto.set_ne _ _ (Ne.symm ndc)).trans hc13
  have hl14 : (σ13.set d (.dict E ep14)) l = _ := (Sto.set_ne _ _ nld).trans hl13
  have kk14 : Kp [c, d] σ _ := kk13.trans k14
  generalize σ13.set d (.dict E ep14) = σ14 at *
  have gE : Good E := by
    rw [← hE]
    refine ⟨?_, ?_, by simp; omega⟩
    · show (keys (es ++ [(gr + 1, V.bytes row)] ++ [(gr + 2, V.bytes (row ++ [50].toArray))])).Nodup
      rw [keys_snoc, keys_snoc]
      refine nodup_snoc (nodup_snoc g.nodup fun z => by have := hgk _ z; omega) fun z => ?_
      rw [← keys_snoc (x := V.bytes row)] at z
      have := hgk6 _ z; omega
    · show ∀ k ∈ keys (es ++ [(gr + 1, V.bytes row)] ++ [(gr + 2, V.bytes (row ++ [50].toArray))]), 0 < k
      intro k hk
      rw [keys_snoc, keys_snoc] at hk
      rcases List.mem_append.mp hk with z | z
      · rcases List.mem_append.mp z with z | z
        · obtain ⟨a, ha, e⟩ := (g.mem k).mp z
          have := (hsp a ha).1; omega
        · rw [List.mem_singleton] at z; omega
      · rw [List.mem_singleton] at z; omega
  have oE : Oct E := hE ▸ g.oct.snoc.snoc
  rw [ts_nil]
  refine ⟨rfl, ?_⟩
  rw [ss_cons_, s_ret, e_and, e_cmp, e_var]
  refine ⟨_, rfl, ?_⟩
  rw [e_list, es_cons, e_str, es_cons, e_str, es_nil]
  intro l2 hl2
  have k15 : Kp [] σ14 (σ14.set l2 (.list true [.str "00", .str "00"])) := Kp.new hl2.1
  have hl15 := Sto.set_self σ14 l2 (.list true [.str "00", .str "00"])
  have hy15 := Keep.new (X := []) hl2.1 (o := .list true [.str "00", .str "00"]) y _ (fun z => nomatch z) hy14
  have hc15 := k15.dict hc14
  have hl15' := k15.list hl14
  have hd15 := k15.dict hd14
  have kk15 : Kp [c, d] σ _ := kk14.trans k15.weak
  generalize σ14.set l2 (.list true [.str "00", .str "00"]) = σ15 at *
  have its : Its σ15 [.str "00", .str "00"] [.at (.str "00"), .at (.str "00")] := .cons (ItAt.same _) (.cons (ItAt.same _) .nil)
  refine ⟨true, eq_lists hl15' rfl hl15 rfl its its (fun i hi => by simp at hi; subst hi; rfl), true, rfl, ?_⟩
  rw [if_pos rfl, e_and, e_cmp, e_var]
  refine ⟨_, rfl, ?_⟩
  rw [e_var]
  refine ⟨_, rfl, true, eq_dicts gE oE hc15 rfl hd15 rfl, true, rfl, ?_⟩
  rw [if_pos rfl, e_cmp]
  refine get_v rfl hy15 rfl ?_
  rw [e_add, e_var]
  refine ⟨_, rfl, ?_⟩
  rw [e_int]
  refine int_eq ?_
  show q (.bool (gr + 1 + 1 == gr + 2)) σ15
  rw [e2, beq_self_eq_true]
  exact h σ15 (Kp.drop nd (Kp.drop hcn.1 (kk15.mono (by simp))))
end Mine
end
section
open PySem
set_option Elab.async false
set_option maxRecDepth 100000
namespace Mine
variable {n : Nat} {σ σ' : Sto} {ε : Env0}
theorem allEq_itsK {k : Nat} {vs : List V} {is : List It} (h : Its σ vs is) : ∀ {ws : List V}, Its σ ws is → (∀ i ∈ is, i.ok) → allEq (eqV (look (P1.gx n) σ) (k + 1)) vs ws = some true := by
  induction h with
  | nil => intro ws h2 _; cases h2; rfl
  | @cons v i vs is a _ ih =>
    intro ws h2 ho
    cases h2 with
    | @cons w _ ws _ b h2 =>
      have e : eqV (look (P1.gx n) σ) (k + 1) v w = some true := by
        have := ho i (.head _)
        cases i with
        | «at» x =>
          have a : v = x := a
          have b : w = x := b
          rw [a, b]; exact eq_atom this
        | tup xs =>
          obtain ⟨t, rfl, a1, a2⟩ := a
          obtain ⟨t', rfl, b1, b2⟩ := b
          unfold eqV
          rw [look_dyn a2, look_dyn b2, a1, b1]
          dsimp only
          rw [if_pos rfl]
          exact allEq_atoms this
      unfold allEq
      rw [e, ih h2 fun j hj => ho j (.tail _ hj)]
      rfl
theorem eq_dl {t t' c c' l l' : Addr} {es fs : List (Int × V)} {ep ep' : Nat} {vs ws : List V} {is : List It} (ht : σ t = some (.tup [.ref c, .ref l])) (ht' : σ t' = some (.tup [.ref c', .ref l'])) (hc : σ c = some (.dict es ep)) (hc' : σ c' = some (.dict fs ep')) (hl : σ l = some (.list true vs)) (hl' : σ l' = some (.list true ws))
    (hlen : es.length = fs.length) (hes : ∀ p ∈ es, getE p.1 fs = some p.2) (o : Oct es) (h : Its σ vs is) (h' : Its σ ws is) (ho : ∀ i ∈ is, i.ok) : eqT (look (P1.gx n) σ) (.ref t) (.ref t') = some true := by
  have e1 : eqV (look (P1.gx n) σ) 3 (.ref c) (.ref c') = some true := by
    unfold eqV
    rw [look_dyn rfl, look_dyn rfl, hc, hc']
    dsimp only
    split
    · rfl
    · exact dictEq_self fun p hp => ⟨hes p hp, by obtain ⟨b, hb⟩ := o p hp; rw [hb]; exact eq_atom rfl⟩
  have e2 : eqV (look (P1.gx n) σ) 3 (.ref l) (.ref l') = some true := by
    unfold eqV
    rw [look_dyn rfl, look_dyn rfl, hl, hl']
    dsimp only
    rw [if_pos (by rw [h.length, h'.length])]
    exact allEq_itsK h h' ho
  unfold eqT
  dsimp only
  rw [look_dyn rfl, look_dyn rfl, ht, ht']
  dsimp only
  unfold eqV
  rw [look_dyn rfl, look_dyn rfl, ht, ht']
  dsimp only
  rw [if_pos (show [V.ref c, V.ref l].length = [V.ref c', V.ref l'].length from rfl)]
  unfold allEq
  rw [e1]
  unfold allEq
  rw [e2]
  rfl
theorem eq_dicts2 {a b : Addr} {es fs : List (Int × V)} {ep ep' : Nat} (o : Oct es) (ha : σ a = some (.dict es ep)) (hb : σ b = some (.dict fs ep')) (hlen : es.length = fs.length) (hes : ∀ p ∈ es, getE p.1 fs = some p.2) : eqT (look (P1.gx n) σ) (.ref a) (.ref b) = some true := by
  unfold eqT
  dsimp only
  rw [look_dyn rfl, look_dyn rfl, ha, hb]
  dsimp only
  rw [if_pos hlen]
  refine dictEq_self fun p hp => ⟨hes p hp, ?_⟩
  obtain ⟨z, hz⟩ := o p hp
  rw [hz]; exact eq_atom rfl
theorem numF_range {bs : List (Array UInt8)} : ∀ {L : Nat}, L ≤ bs.length → numF (bs.take L) 0 = (List.range L).map fun i => (((i + 1 : Nat) : Int), V.bytes (bs.getD i #[]))
  | 0, _ => rfl
  | L + 1, h => by
    have hL : L < bs.length := h
    rw [← List.take_append_getElem hL, numF_snoc, numF_range (Nat.le_of_lt hL), List.range_succ, List.map_append]
    have e1 : 0 + (bs.take L).length + 1 = L + 1 := by rw [List.length_take]; omega
    rw [e1]
    have e2 : bs.getD L #[] = bs[L] := by rw [List.getD_eq_getElem?_getD, List.getElem?_eq_getElem hL]; rfl
    rw [← e2]; rfl
theorem foldl_put : ∀ (ps es : List (Int × V)), (keys (es ++ ps)).Nodup → ps.foldl (fun es p => putE p.1 p.2 es) es = es ++ ps
  | [], es, _ => (List.append_nil es).symm
  | p :: r, es, h => by
    have hno : p.1 ∉ keys es := fun z => by
      unfold keys at h z
      rw [List.map_append, List.nodup_append] at h
      exact h.2.2 _ z p.1 (List.mem_map_of_mem (List.mem_cons_self)) rfl
    show r.foldl _ (putE p.1 p.2 es) = _
    rw [putE_new hno]
    have e : es ++ p :: r = es ++ [(p.1, p.2)] ++ r := by simp
    rw [foldl_put r _ (by rw [← e]; exact h), ← e]
theorem pairs_its : ∀ {ps : List (Int × V)} {vs : List V}, Its σ vs (ps.map fun p => .tup [.int p.1, p.2]) → pairsOf (look (P1.gx n) σ) vs = some ps
  | [], _, h => by cases h; rfl
  | p :: r, _, h => by
    cases h with
    | cons a h =>
      obtain ⟨t, rfl, a1, a2⟩ := a
      unfold pairsOf
      rw [look_dyn a2, a1]
      dsimp only
      rw [pairs_its h]; rfl
theorem handT_mem {m a : Nat} : ∀ {ord th : List Nat}, a ∈ handT m ord th ↔ a ∈ th ∨ (a ∈ ord ∧ (m = 0 ∨ a < m))
  | [], th => by show a ∈ th ↔ _; simp
  | b :: r, th => by
    show a ∈ handT m r (handN m th b) ↔ _
    rw [handT_mem (ord := r)]
    unfold handN
    by_cases h : (m ≠ 0 ∧ m < b + 1) ∨ b ∈ th
    · rw [if_pos h, List.mem_cons]
      constructor
      · rintro (z | ⟨z, w⟩)
        · exact .inl z
        · exact .inr ⟨.inr z, w⟩
      · rintro (z | ⟨z | z, w⟩)
        · exact .inl z
        · subst z
          rcases h with h | h
          · omega
          · exact .inl h
        · exact .inr ⟨z, w⟩
    · rw [if_neg h, List.mem_append, List.mem_singleton, List.mem_cons]
      constructor
      · rintro ((z | z) | ⟨z, w⟩)
        · exact .inl z
        · subst z; exact .inr ⟨.inl rfl, by omega⟩
        · exact .inr ⟨.inr z, w⟩
      · rintro (z | ⟨z | z, w⟩)
        · exact .inl (.inl z)
        · exact .inl (.inr z)
        · exact .inr ⟨z, w⟩
theorem handT_nodup {m : Nat} : ∀ {ord th : List Nat}, th.Nodup → (handT m ord th).Nodup
  | [], _, h => h
  | b :: r, th, h => by
    refine handT_nodup (ord := r) ?_
    unfold handN
    split
    · exact h
    · rename_i z
      rw [List.nodup_append]
      refine ⟨h, by simp, fun a ha c hc => ?_⟩
      rw [List.mem_singleton] at hc
      intro e; rw [e, hc] at ha; exact z (.inr ha)
theorem hand_all {m N : Nat} {ord : List Nat} (h : ∀ a, a ∈ ord ↔ a < N) : (∀ a, a ∈ handT m ord [] ↔ a < capN m N) ∧ (handT m ord []).length = capN m N := by
  have hm : ∀ a, a ∈ handT m ord [] ↔ a < capN m N := fun a => by
    rw [handT_mem, h]
    unfold capN
    split <;> simp <;> omega
  refine ⟨hm, ?_⟩
  have p : (handT m ord []).Perm (List.range (capN m N)) := (List.perm_ext_iff_of_nodup (handT_nodup List.nodup_nil) List.nodup_range).mpr fun a => by rw [hm, List.mem_range]
  rw [p.length_eq, List.length_range]
theorem thF_oct {bs : List (Array UInt8)} {th : List Nat} : Oct (thF bs th) := fun p hp => by
  obtain ⟨a, _, e⟩ := List.mem_map.mp (show p ∈ th.map _ from hp)
  exact ⟨_, by rw [← e]⟩
theorem th_in {bs : List (Array UInt8)} {th : List Nat} {L : Nat} (hL : L ≤ bs.length) (h : ∀ a ∈ th, a < L) : ∀ p ∈ thF bs th, getE p.1 (numF (bs.take L) 0) = some p.2 := fun p hp => by
  obtain ⟨a, ha, rfl⟩ := List.mem_map.mp (show p ∈ th.map _ from hp)
  have hm : (((a + 1 : Nat) : Int), V.bytes (bs.getD a #[])) ∈ numF (bs.take L) 0 := by
    rw [numF_range hL]
    exact List.mem_map.mpr ⟨a, List.mem_range.mpr (h a ha), rfl⟩
  exact getE_self numF_nodup hm
theorem rows_comp {f a : Addr} {N : Nat} {q : List V → Sto → Prop} : ∀ (xs : List V) (ε : Env0) (acc : List (Array UInt8)) (k : Nat) (τ : Sto), ε.length = 15 → ε[1]? = some (some (.ref f)) → τ f = some (.taker k) → k + 4 * xs.length + 10 < 400 → τ a = some (.range N) →
    (∀ τ' (bs : List (Array UInt8)) k', Kp [f] τ τ' → τ' f = some (.taker k') → k' ≤ k + 4 * xs.length → bs.length = acc.length + xs.length → q (bs.map .bytes) τ') →
    goComp (P1.gx n) (wpE (P1.gx n) (.bi .bytes (.comp (.take (.var 1) (.int 256)) 15 (.bi .range (.take (.var 1) (.int 3))) (.tru)))) (wpC (P1.gx n) .tru) 14 a (.range N) q xs (acc.map .bytes) ε τ
  | [], ε, acc, k, τ, hε, e1, hf, hk, ha, h => ⟨(look_dyn rfl).trans ha, h τ acc k Kp.refl hf (by omega) rfl⟩
  | x :: xs, ε, acc, k, τ, hε, e1, hf, hk, ha, h => by
    have e1' : (ε.set 14 (some x))[1]? = some (some (.ref f)) := by rw [List.getElem?_set_ne (by decide)]; exact e1
    have hl' : (ε.set 14 (some x)).length = 15 := by rw [List.length_set]; exact hε
    simp only [List.length_cons] at hk h
    refine ⟨(look_dyn rfl).trans ha, ?_⟩
    rw [c_tru, if_pos rfl]
    generalize ε.set 14 (some x) = ε1 at *
    rw [e_bi, e_comp, e_bi]
    refine take_at e1' hf (by omega) (by decide) (by decide) fun r r0 r1 => ?_
    have k1 : Kp [f] τ (τ.set f (.taker (k + 1))) := Kp.put hf (by simp [keeps])
    have hf1 := Sto.set_self τ f (.taker (k + 1))
    have ha1 := k1.range ha
    generalize τ.set f (.taker (k + 1)) = τ1 at *
    refine ⟨r0, by omega, fun l nl => ?_⟩
    have k2 : Kp [] τ1 (τ1.set l (.range r.toNat)) := Kp.new nl.1
    have hl2 := Sto.set_self τ1 l (.range r.toNat)
    have hf2 := k2.taker hf1
    have ha2 := k2.range ha1
    generalize τ1.set l (.range r.toNat) = τ2 at *
    have hlen : ((List.range r.toNat).map fun (i : Nat) => V.int i).length ≤ 2 := by rw [List.length_map, List.length_range]; omega
    refine ⟨l, _, _, rfl, (look_dyn rfl).trans hl2, rfl, Nat.le_trans hlen (by decide), ?_⟩
    refine comp_takes (by decide) rfl _ _ _ (k + 1) τ2 (by rw [List.getElem?_append_left (by omega)]; exact e1') hf2 (by omega) hl2 fun τ3 bs k3 hf3 hb hbl => ?_
    intro l3 nl3
    have k4 : Kp [] τ3 (τ3.set l3 (.list true ([] ++ bs.map .int))) := Kp.new nl3.1
    have hl4 := Sto.set_self τ3 l3 (.list true ([] ++ bs.map .int))
    have hf4 := k4.taker hf3
    have ha4 := k4.range (k3.range ha2)
    have kk : Kp [f] τ _ := (k1.trans k2.weak).trans (k3.trans k4.weak)
    generalize τ3.set l3 (.list true ([] ++ bs.map .int)) = τ4 at *
    obtain ⟨b8, ho, h8⟩ := octets_ok hb
    refine ⟨true, _, bs, b8, (look_dyn rfl).trans hl4, ?_, ho, by omega, ?_⟩
    · rw [List.nil_append]; exact intsOf_map' bs
    have e : acc.map V.bytes ++ [.bytes b8.toArray] = (acc ++ [b8.toArray]).map .bytes := by rw [List.map_append]; rfl
    dsimp only
    rw [e]
    refine rows_comp xs ε1 (acc ++ [b8.toArray]) _ τ4 hl' e1' hf4 (by omega) ha4 fun τ' bs' k' c1 c2 c3 c4 => ?_
    exact h τ' bs' k' (kk.trans c1) c2 (by omega) (by rw [c4]; simp; omega)
theorem ones_comp {f a : Addr} {N : Nat} {q : List V → Sto → Prop} : ∀ (xs : List V) (ε : Env0) (acc : List Nat) (k : Nat) (τ : Sto), ε[1]? = some (some (.ref f)) → τ f = some (.taker k) → k + xs.length < 400 → τ a = some (.range N) → (∀ a ∈ acc, 0 < a ∧ a < 256) →
    (∀ τ' (sp : List Nat) k', Kp [f] τ τ' → τ' f = some (.taker k') → k' ≤ k + xs.length → (∀ a ∈ sp, 0 < a ∧ a < 256) → sp.length = acc.length + xs.length → q (nats sp) τ') →
    goComp (P1.gx n) (wpE (P1.gx n) (.add (.int 1) (.take (.var 1) (.int 9)))) (wpC (P1.gx n) .tru) 14 a (.range N) q xs (nats acc) ε τ
  | [], ε, acc, k, τ, e1, hf, hk, ha, hacc, h => ⟨(look_dyn rfl).trans ha, h τ acc k Kp.refl hf (by omega) hacc rfl⟩
  | x :: xs, ε, acc, k, τ, e1, hf, hk, ha, hacc, h => by
    have e1' : (ε.set 14 (some x))[1]? = some (some (.ref f)) := by rw [List.getElem?_set_ne (by decide)]; exact e1
    simp only [List.length_cons] at hk h
    refine ⟨(look_dyn rfl).trans ha, ?_⟩
    rw [c_tru, if_pos rfl, e_add, e_int]
    refine take_at e1' hf (by omega) (by decide) (by decide) fun r r0 r1 => ?_
    have k1 : Kp [f] τ (τ.set f (.taker (k + 1))) := Kp.put hf (by simp [keeps])
    show goComp (P1.gx n) _ _ 14 a (.range N) q xs (nats acc ++ [.int (1 + r)]) _ _
    have e : nats acc ++ [.int (1 + r)] = nats (acc ++ [(1 + r).toNat]) := by
      unfold nats
      rw [List.map_append]
      show _ = _ ++ [V.int (((1 + r).toNat : Nat) : Int)]
      rw [Int.toNat_of_nonneg (by omega)]
    rw [e]
    refine ones_comp xs _ (acc ++ [(1 + r).toNat]) (k + 1) _ e1' (Sto.set_self _ _ _) (by omega) (k1.range ha) (fun b hb => ?_) fun τ' sp k' c1 c2 c3 c4 c5 => ?_
    · rcases List.mem_append.mp hb with z | z
      · exact hacc b z
      · rw [List.mem_singleton] at z; omega
    · exact h τ' sp k' (k1.trans c1) c2 (by omega) c4 (by rw [c5]; simp; omega)
theorem pairs_comp {r a : Addr} {bs : List (Array UInt8)} {N : Nat} {q : List V → Sto → Prop} : ∀ (k i : Nat) (ε : Env0) (acc : List V) (is : List It) (τ : Sto), i + k ≤ bs.length → bs.length ≤ 50 → ε.length = 15 → ε[2]? = some (some (.ref r)) → τ r = some (.list true (bs.map .bytes)) → τ a = some (.range N) → Its τ acc is →
    (∀ τ' ts, Kp [] τ τ' → Its τ' ts (is ++ (List.range' i k).map fun i => .tup [.int (i + 1 : Nat), .bytes (bs.getD i #[])]) → q ts τ') →
    goComp (P1.gx n) (wpE (P1.gx n) (.tup (.cons (.add (.var 14) (.int 1)) (.cons (.sub (.var 2) (.var 14)) .nil)))) (wpC (P1.gx n) .tru) 14 a (.range N) q ((List.range' i k).map fun i => .int (i : Nat)) acc ε τ
  | 0, i, ε, acc, is, τ, hi, hb, hε, e2, hr, ha, hits, h => ⟨(look_dyn rfl).trans ha, h τ acc Kp.refl (by simpa using hits)⟩
  | k + 1, i, ε, acc, is, τ, hi, hb, hε, e2, hr, ha, hits, h => by
    have hib : i < bs.length := by omega
    have e2' : (ε.set 14 (some (.int (i : Nat))))[2]? = some (some (.ref r)) := by rw [List.getElem?_set_ne (by decide)]; exact e2
    have e14 : (ε.set 14 (some (.int (i : Nat))))[14]? = some (some (.int (i : Nat))) := by rw [List.getElem?_set_self (by omega)]
    have hl' : (ε.set 14 (some (.int (i : Nat)))).length = 15 := by rw [List.length_set]; exact hε
    refine ⟨(look_dyn rfl).trans ha, ?_⟩
    rw [c_tru, if_pos rfl]
    generalize ε.set 14 (some (.int (i : Nat))) = ε1 at *
    rw [e_tup, es_cons, e_add, e_var]
    refine ⟨_, e14, ?_⟩
    rw [e_int]
    show wpEs _ _ _ _ _
    rw [es_cons, e_sub, e_var]
    refine ⟨_, e2', ?_⟩
    rw [e_var]
    refine ⟨_, e14, sub_list (y := .bytes (bs.getD i #[])) ((look_dyn rfl).trans hr) (by omega) (by omega) ?_ ?_⟩
    · rw [Int.toNat_natCast, List.getElem?_map, List.getElem?_eq_getElem hib, List.getD_eq_getElem?_getD, List.getElem?_eq_getElem hib]; rfl
    rw [es_nil]
    intro t ht
    have k1 : Kp [] τ (τ.set t (.tup [.int ((i : Nat) + 1), .bytes (bs.getD i #[])])) := Kp.new ht.1
    refine pairs_comp k (i + 1) ε1 (acc ++ [.ref t]) (is ++ [.tup [.int ((i : Nat) + 1), .bytes (bs.getD i #[])]]) _ (by omega) hb hl' e2' (k1.list hr) (k1.range ha) ((hits.keep k1).snoc (ItAt.of (Sto.set_self _ _ _) rfl)) fun τ' ts c1 c2 => h τ' ts (k1.trans c1) ?_
    rw [List.append_assoc] at c2
    exact c2
theorem plus_comp {a : Addr} {sv : List V} {q : List V → Sto → Prop} : ∀ (th : List Nat) (ε : Env0) (acc : List V) (τ : Sto), ε.length = 15 → τ a = some (.list true sv) → q (acc ++ th.map fun a => .int (a + 1 : Nat)) τ →
    goComp (P1.gx n) (wpE (P1.gx n) (.add (.var 14) (.int 1))) (wpC (P1.gx n) .tru) 14 a (.list true sv) q (nats th) acc ε τ
  | [], ε, acc, τ, hε, ha, h => ⟨(look_dyn rfl).trans ha, by simpa using h⟩
  | b :: th, ε, acc, τ, hε, ha, h => by
    have e14 : (ε.set 14 (some (.int (b : Nat))))[14]? = some (some (.int (b : Nat))) := by rw [List.getElem?_set_self (by omega)]
    have hl' : (ε.set 14 (some (.int (b : Nat)))).length = 15 := by rw [List.length_set]; exact hε
    refine ⟨(look_dyn rfl).trans ha, ?_⟩
    rw [c_tru, if_pos rfl]
    show wpE (P1.gx n) _ _ (ε.set 14 (some (.int (b : Nat)))) τ
    rw [e_add, e_var]
    refine ⟨_, e14, ?_⟩
    rw [e_int]
    show goComp (P1.gx n) _ _ 14 a (.list true sv) q (nats th) (acc ++ [.int ((b : Nat) + 1)]) _ τ
    refine plus_comp th _ _ τ hl' ha ?_
    rw [List.append_assoc]
    exact h
theorem nats_snoc {l : List Nat} {a : Nat} : nats (l ++ [a]) = nats l ++ [.int (a : Nat)] := by unfold nats; rw [List.map_append]; rfl
theorem nats_erase {ls : List Nat} {i : Nat} : (nats ls).eraseIdx i = nats (ls.eraseIdx i) := by
  unfold nats
  induction ls generalizing i with
  | nil => rfl
  | cons a r ih =>
    cases i with
    | zero => rfl
    | succ i => show V.int (a : Nat) :: _ = V.int (a : Nat) :: _; rw [← ih]
theorem mem_eraseN {k : Nat} : ∀ {ks : List Nat} {i : Nat} (h : i < ks.length), k ∈ ks ↔ k = ks[i] ∨ k ∈ ks.eraseIdx i
  | a :: r, 0, _ => by simp
  | a :: r, i + 1, h => by
    have h' : i < r.length := by simpa using h
    show k ∈ a :: r ↔ k = r[i] ∨ k ∈ a :: r.eraseIdx i
    rw [List.mem_cons, List.mem_cons, mem_eraseN h']
    exact ⟨fun z => by rcases z with z | z | z <;> simp [z], fun z => by rcases z with z | z | z <;> simp [z]⟩
theorem nat_item {ks : List Nat} {r : Int} (h0 : 0 ≤ r) (h : r.toNat < ks.length) : (nats ks)[r.toNat]? = some (.int (ks[r.toNat] : Nat)) := by
  unfold nats
  rw [List.getElem?_map, List.getElem?_eq_getElem h]; rfl
@[reducible] noncomputable def ord2Body : PSs := .cons (.expr (.bm (.var 9) .append (.cons (.bm (.var 10) .popL (.cons (.take (.var 1) (.bi .len (.var 10))) .nil)) .nil))) (.cons (.ite (.cmp .eq (.take (.var 1) (.int 4)) (.int 0)) (.cons (.expr (.bm (.var 9) .append (.cons (.sub (.var 9) (.take (.var 1) (.bi .len (.var 9)))) .nil))) .nil) (.nil)) .nil)
theorem ord2_loop {f o s : Addr} (e1 : ε[1]? = some (some (.ref f))) (e9 : ε[9]? = some (some (.ref o))) (e10 : ε[10]? = some (some (.ref s))) (nos : o ≠ s) {q : PostF} : ∀ (m : Nat) (ls os : List Nat) (k : Nat) (τ : Sto), ls.length < m → τ f = some (.taker k) → k + 3 * ls.length + 10 < 400 → τ o = some (.list true (nats os)) → τ s = some (.list true (nats ls)) → os.length + 2 * ls.length ≤ 40 →
    (∀ (τ' : Sto) (os' : List Nat) (k' : Nat), τ' o = some (.list true (nats os')) → (∀ a, a ∈ os' ↔ a ∈ os ∨ a ∈ ls) → os'.length ≤ os.length + 2 * ls.length → τ' f = some (.taker k') → k' ≤ k + 3 * ls.length → Kp [f, o, s] τ τ' → q .next ε τ') →
    goWhile (wpC (P1.gx n) (.cmp .ne (.var 10) (.list .nil))) (wpSs (P1.gx n) ord2Body) q m ε τ := by
  intro m
  induction m with
  | zero => intro ls _ _ _ h; exact absurd h (Nat.not_lt_zero _)
  | succ m ih =>
    intro ls os k τ hm hf hk ho hs hlen hq
    have nof : o ≠ f := fun e => by rw [e, hf] at ho; cases ho
    have nsf : s ≠ f := fun e => by rw [e, hf] at hs; cases hs
    show wpC (P1.gx n) _ _ _ _
    refine ne_nil e10 hs rfl fun τ1 k1 => ?_
    have hf1 := k1.taker hf
    have ho1 := k1.list ho
    have hs1 := k1.list hs
    by_cases hz : ls = []
    · subst hz
      rw [if_neg (by simp [nats])]
      exact hq τ1 os k ho1 (fun k => by simp) (by simp) hf1 (by omega) k1.weak
    · have hpos : 0 < ls.length := List.length_pos_iff.mpr hz
      rw [if_pos (by unfold nats; simpa using hz), ss_cons_]
      refine app_at e9 ho1 ?_
      rw [e_bm, e_var]
      refine ⟨.ref s, e10, ⟨_, hs1⟩, ?_⟩
      rw [es_cons, e_take, e_var]
      refine ⟨.ref f, e1, ?_⟩
      rw [e_bi, e_var]
      refine ⟨.ref s, e10, bi_len ((look_dyn rfl).trans hs1) ?_⟩
      have hln : (nats ls).length = ls.length := by unfold nats; rw [List.length_map]
      rw [hln]
      refine ⟨k, hf1, by omega, by omega, by omega, fun r r0 r1 => ?_⟩
      have k2 : Kp [f] τ1 (τ1.set f (.taker (k + 1))) := Kp.put hf1 (by simp [keeps])
      have hf2 := Sto.set_self τ1 f (.taker (k + 1))
      have ho2 := k2.list ho1 (by simpa using nof)
      have hs2 := k2.list hs1 (by simpa using nsf)
      generalize τ1.set f (.taker (k + 1)) = τ2 at *
      dsimp only
      rw [es_nil]
      have hri : r.toNat < ls.length := by omega
      refine ⟨_, hs2, r0, .int (ls[r.toNat] : Nat), nat_item r0 hri, by rw [hln]; omega, ?_⟩
      rw [nats_erase]
      have k3 : Kp [s] τ2 (τ2.set s (.list true (nats (ls.eraseIdx r.toNat)))) := Kp.put hs2 (by simp [keeps])
      have hs3 := Sto.set_self τ2 s (.list true (nats (ls.eraseIdx r.toNat)))
      have hf3 := k3.taker hf2 (by simpa using nsf.symm)
      have ho3 := k3.list ho2 (by simpa using nos)
      generalize τ2.set s (.list true (nats (ls.eraseIdx r.toNat))) = τ3 at *
      refine ⟨_, ho3, by unfold nats; rw [List.length_map]; omega, (fun _ => nofun), ?_⟩
      have eos : nats os ++ [.int (ls[r.toNat] : Nat)] = nats (os ++ [ls[r.toNat]]) := by unfold nats; rw [List.map_append]; rfl
      rw [eos]
      have s4 : Keep [o] τ3 (τ3.set o (.list true (nats (os ++ [ls[r.toNat]])))) := keep_set ho3
      have k4 : Kp [o] τ3 (τ3.set o (.list true (nats (os ++ [ls[r.toNat]])))) := Kp.put ho3 (by simp [keeps])
      have ho4 := Sto.set_self τ3 o (.list true (nats (os ++ [ls[r.toNat]])))
      have hf4 := s4 f _ (by simpa using nof.symm) hf3
      have hs4 := s4 s _ (by simpa using nos.symm) hs3
      have kk4 : Kp [f, o, s] τ _ := ((k1.weak.trans (k2.mono (by simp))).trans (k3.mono (by simp))).trans (k4.mono (by simp))
      generalize τ3.set o (.list true (nats (os ++ [ls[r.toNat]]))) = τ4 at *
      have hel : (ls.eraseIdx r.toNat).length = ls.length - 1 := List.length_eraseIdx_of_lt hri
      have hmem : ∀ a, a ∈ ls ↔ a = ls[r.toNat] ∨ a ∈ ls.eraseIdx r.toNat := fun a => mem_eraseN hri
      generalize ls[r.toNat] = b at *
      generalize ls.eraseIdx r.toNat = ls' at *
      rw [ss_cons_, s_ite, c_cmp]
      refine take_at e1 hf4 (by omega) (by decide) (by decide) fun r2 r20 r21 => ?_
      have k5 : Kp [f] τ4 (τ4.set f (.taker (k + 1 + 1))) := Kp.put hf4 (by simp [keeps])
      have hf5 := Sto.set_self τ4 f (.taker (k + 1 + 1))
      have ho5 := k5.list ho4 (by simpa using nof)
      have hs5 := k5.list hs4 (by simpa using nsf)
      have kk5 : Kp [f, o, s] τ _ := kk4.trans (k5.mono (by simp))
      generalize τ4.set f (.taker (k + 1 + 1)) = τ5 at *
      rw [e_int]
      refine int_eq ?_
      by_cases hr2 : r2 = 0
      · rw [if_pos (by simpa using hr2), ss_cons_]
        refine app_at e9 ho5 ?_
        rw [e_sub, e_var]
        refine ⟨.ref o, e9, ?_⟩
        rw [e_take, e_var]
        refine ⟨.ref f, e1, ?_⟩
        rw [e_bi, e_var]
        refine ⟨.ref o, e9, bi_len ((look_dyn rfl).trans ho5) ?_⟩
        have hlo : (nats (os ++ [b])).length = os.length + 1 := by unfold nats; simp
        rw [hlo]
        refine ⟨k + 1 + 1, hf5, by omega, by omega, by omega, fun r3 r30 r31 => ?_⟩
        have k6 : Kp [f] τ5 (τ5.set f (.taker (k + 1 + 1 + 1))) := Kp.put hf5 (by simp [keeps])
        have hf6 := Sto.set_self τ5 f (.taker (k + 1 + 1 + 1))
        have ho6 := k6.list ho5 (by simpa using nof)
        have hs6 := k6.list hs5 (by simpa using nsf)
        have kk6 : Kp [f, o, s] τ _ := kk5.trans (k6.mono (by simp))
        generalize τ5.set f (.taker (k + 1 + 1 + 1)) = τ6 at *
        have h3 : r3.toNat < (os ++ [b]).length := by simp; omega
        refine sub_list ((look_dyn rfl).trans ho6) r30 (by omega) (nat_item r30 h3) ?_
        refine ⟨_, ho6, by rw [hlo]; omega, (fun _ => nofun), ?_⟩
        have eos2 : nats (os ++ [b]) ++ [.int ((os ++ [b])[r3.toNat] : Nat)] = nats (os ++ [b] ++ [(os ++ [b])[r3.toNat]]) := nats_snoc.symm
        rw [eos2]
        have hin : (os ++ [b])[r3.toNat] ∈ os ++ [b] := List.getElem_mem h3
        generalize (os ++ [b])[r3.toNat] = d at *
        have s7 : Keep [o] τ6 (τ6.set o (.list true (nats (os ++ [b] ++ [d])))) := keep_set ho6
        have k7 : Kp [o] τ6 (τ6.set o (.list true (nats (os ++ [b] ++ [d])))) := Kp.put ho6 (by simp [keeps])
        dsimp only
        rw [ss_nil_]
        dsimp only
        rw [ss_nil_]
        refine ih ls' (os ++ [b] ++ [d]) (k + 1 + 1 + 1) _ (by omega) (s7 f _ (by simpa using nof.symm) hf6) (by omega) (Sto.set_self _ _ _) (s7 s _ (by simpa using nos.symm) hs6) (by simp; omega) fun τ' os' k' b1 b2 b3 b4 b5 b6 => ?_
        refine hq τ' os' k' b1 (fun a => ?_) (by simp at b3; omega) b4 (by omega) ((kk6.trans (k7.mono (by simp))).trans b6)
        rw [b2 a, hmem a, List.mem_append, List.mem_append, List.mem_singleton, List.mem_singleton]
        rw [List.mem_append, List.mem_singleton] at hin
        constructor
        · rintro (((z | z) | z) | z)
          · exact .inl z
          · exact .inr (.inl z)
          · rw [z]; rcases hin with w | w
            · exact .inl w
            · exact .inr (.inl w)
          · exact .inr (.inr z)
        · rintro (z | z | z)
          · exact .inl (.inl (.inl z))
          · exact .inl (.inl (.inr z))
          · exact .inr z
      · rw [if_neg (by simpa using hr2), ss_nil_]
        dsimp only
        rw [ss_nil_]
        refine ih ls' (os ++ [b]) (k + 1 + 1) _ (by omega) hf5 (by omega) ho5 hs5 (by simp; omega) fun τ' os' k' b1 b2 b3 b4 b5 b6 => ?_
        refine hq τ' os' k' b1 (fun a => ?_) (by simp at b3; omega) b4 (by omega) (kk5.trans b6)
        rw [b2 a, hmem a, List.mem_append, List.mem_singleton]
        constructor
        · rintro ((z | z) | z)
          · exact .inl z
          · exact .inr (.inl z)
          · exact .inr (.inr z)
        · rintro (z | z | z)
          · exact .inl (.inl z)
          · exact .inl (.inr z)
          · exact .inr z
end Mine
end
section
open PySem
set_option Elab.async false
set_option maxRecDepth 100000
namespace Mine
variable {n : Nat} {σ σ' : Sto} {ε : Env0}
@[reducible] noncomputable def st1 : PS := .ite (.cmp .ne (.fn 176 (.cons (.list (.cons (.bytes [97]) (.cons (.bytes []) (.cons (.bytes [99]) .nil)))) (.cons (.int 2) (.cons (.int 2) .nil)))) (.tup (.cons (.dict (.cons (.int 1) (.cons (.bytes [97]) (.cons (.int 2) (.cons (.bytes []) .nil))))) (.cons (.list (.cons (.tup (.cons (.str "00") (.cons (.int 1) .nil))) (.cons (.tup (.cons (.str "00") (.cons (.int 2) .nil))) (.cons (.tup (.cons (.str "24") (.cons (.int 2) .nil))) .nil)))) .nil)))) (.cons (.ret (.bool false)) .nil) (.nil)
@[reducible] noncomputable def st2 : PS := .ite (.or (.cmp .ne (.fn 183 (.cons (.list (.cons (.bytes [97]) (.cons (.bytes []) (.cons (.bytes [99]) .nil)))) (.cons (.list (.cons (.int 1) (.cons (.int 1) (.cons (.int 2) (.cons (.int 0) .nil))))) (.cons (.int 2) .nil)))) (.tup (.cons (.dict (.cons (.int 2) (.cons (.bytes []) (.cons (.int 1) (.cons (.bytes [97]) .nil))))) (.cons (.list (.cons (.str "00") (.cons (.str "22") (.cons (.str "24") (.cons (.str "00") .nil))))) .nil)))) (.not (.val (.fn 204 (.cons (.list (.cons (.int 2) (.cons (.int 5) .nil))) (.cons (.bytes [122]) .nil)))))) (.cons (.ret (.bool false)) .nil) (.nil)
noncomputable def wb : List (Array UInt8) := [[97].toArray, [].toArray, [99].toArray]
noncomputable def wd1 : List (Int × V) := [(1, .bytes [97].toArray), (2, .bytes [].toArray)]
noncomputable def wd2 : List (Int × V) := [(2, .bytes [].toArray), (1, .bytes [97].toArray)]
theorem wb_d1 : numF (wb.take (capN 2 wb.length)) 0 = wd1 := rfl
theorem wb_d2 : thF wb (handT 2 [1, 1, 2, 0] []) = wd2 := rfl
theorem wb_i1 : (List.range wb.length).map (ordIt 2) = [.tup [.str "00", .int 1], .tup [.str "00", .int 2], .tup [.str "24", .int 2]] := rfl
theorem wb_i2 : handF 2 [1, 1, 2, 0] [] = [.at (.str "00"), .at (.str "22"), .at (.str "24"), .at (.str "00")] := rfl
theorem wd1_oct : Oct wd1 := fun p hp => by
  simp only [wd1, List.mem_cons, List.not_mem_nil, or_false] at hp
  rcases hp with rfl | rfl <;> exact ⟨_, rfl⟩
theorem wd2_oct : Oct wd2 := fun p hp => by
  simp only [wd2, List.mem_cons, List.not_mem_nil, or_false] at hp
  rcases hp with rfl | rfl <;> exact ⟨_, rfl⟩
theorem law_a1 {Q : PostF} (h : ∀ σ', Kp [] σ σ' → Q .next ε σ') : wpS (P1.gx (n + 5)) st1 Q ε σ := by
  rw [s_ite, c_cmp, e_fnW, es_cons, e_list, es_cons, e_bytes, es_cons, e_bytes, es_cons, e_bytes, es_nil]
  intro r hr
  have k1 : Kp [] σ (σ.set r (.list true (wb.map .bytes))) := Kp.new hr.1
  have hr1 := Sto.set_self σ r (.list true (wb.map .bytes))
  show wpEs _ _ _ _ (σ.set r (.list true (wb.map .bytes)))
  generalize σ.set r (.list true (wb.map .bytes)) = σ1 at *
  rw [es_cons, e_int, es_cons, e_int, es_nil]
  refine sp_byorder (n := n) (mN := 2) (m := 2) hr1 (by decide) (by decide) fun σ2 t c l vs ep ht hc hl its k2 _ _ => ?_
  rw [wb_d1] at hc
  rw [wb_i1] at its
  rw [e_tup, es_cons, e_dict, ds_cons, e_int]
  refine ⟨1, rfl, ?_⟩
  rw [e_bytes, ds_cons, e_int]
  refine ⟨2, rfl, ?_⟩
  rw [e_bytes, ds_nil]
  intro d hd epd
  show wpEs _ _ _ _ (σ2.set d (.dict wd1 epd))
  have k3 : Kp [] σ2 (σ2.set d (.dict wd1 epd)) := Kp.new hd.1
  have hd3 := Sto.set_self σ2 d (.dict wd1 epd)
  have ht3 := k3.tup ht
  have hc3 := k3.dict hc
  have hl3 := k3.list hl
  have its3 := its.keep k3
  generalize σ2.set d (.dict wd1 epd) = σ3 at *
  rw [es_cons, e_list, es_cons, e_tup, es_cons, e_str, es_cons, e_int, es_nil]
  intro t1 ht1
  have k4 : Kp [] σ3 (σ3.set t1 (.tup [.str "00", .int 1])) := Kp.new ht1.1
  have a4 := Sto.set_self σ3 t1 (.tup [.str "00", .int 1])
  generalize σ3.set t1 (.tup [.str "00", .int 1]) = σ4 at *
  rw [es_cons, e_tup, es_cons, e_str, es_cons, e_int, es_nil]
  intro t2 ht2
  have k5 : Kp [] σ4 (σ4.set t2 (.tup [.str "00", .int 2])) := Kp.new ht2.1
  have b5 := Sto.set_self σ4 t2 (.tup [.str "00", .int 2])
  generalize σ4.set t2 (.tup [.str "00", .int 2]) = σ5 at *
  rw [es_cons, e_tup, es_cons, e_str, es_cons, e_int, es_nil]
  intro t3 ht3'
  have k6 : Kp [] σ5 (σ5.set t3 (.tup [.str "24", .int 2])) := Kp.new ht3'.1
  have c6 := Sto.set_self σ5 t3 (.tup [.str "24", .int 2])
  generalize σ5.set t3 (.tup [.str "24", .int 2]) = σ6 at *
  rw [es_nil]
  intro l2 hl2
  have k7 : Kp [] σ6 (σ6.set l2 (.list true [.ref t1, .ref t2, .ref t3])) := Kp.new hl2.1
  have l7 := Sto.set_self σ6 l2 (.list true [.ref t1, .ref t2, .ref t3])
  generalize σ6.set l2 (.list true [.ref t1, .ref t2, .ref t3]) = σ7 at *
  rw [es_nil]
  intro tt htt
  have k8 : Kp [] σ7 (σ7.set tt (.tup [.ref d, .ref l2])) := Kp.new htt.1
  have t8 := Sto.set_self σ7 tt (.tup [.ref d, .ref l2])
  generalize σ7.set tt (.tup [.ref d, .ref l2]) = σ8 at *
  have k48 : Kp [] σ4 σ8 := (k5.trans k6).trans (k7.trans k8)
  have k38 : Kp [] σ3 σ8 := k4.trans k48
  have its8 : Its σ8 [.ref t1, .ref t2, .ref t3] [.tup [.str "00", .int 1], .tup [.str "00", .int 2], .tup [.str "24", .int 2]] :=
    .cons (ItAt.of (k48.tup a4) rfl) (.cons (ItAt.of (((k6.trans k7).trans k8).tup b5) rfl) (.cons (ItAt.of ((k7.trans k8).tup c6) rfl) .nil))
  refine ⟨true, eq_dl (k38.tup ht3) t8 (k38.dict hc3) (k38.dict hd3) (k38.list hl3) (k8.list l7) rfl (fun p hp => getE_self (by decide) hp) wd1_oct (its3.keep k38) its8 (wb_i1 ▸ ordIt_ok), ?_⟩
  dsimp only
  rw [if_neg (by decide), ss_nil_]
  exact h σ8 (((k1.trans k2).trans k3).trans k38)
theorem law_a2 {Q : PostF} (h : ∀ σ', Kp [] σ σ' → Q .next ε σ') : wpS (P1.gx (n + 5)) st2 Q ε σ := by
  rw [s_ite, c_or, c_cmp, e_fnW, es_cons, e_list, es_cons, e_bytes, es_cons, e_bytes, es_cons, e_bytes, es_nil]
  intro r hr
  have k1 : Kp [] σ (σ.set r (.list true (wb.map .bytes))) := Kp.new hr.1
  have hr1 := Sto.set_self σ r (.list true (wb.map .bytes))
  show wpEs _ _ _ _ (σ.set r (.list true (wb.map .bytes)))
  generalize σ.set r (.list true (wb.map .bytes)) = σ1 at *
  rw [es_cons, e_list, es_cons, e_int, es_cons, e_int, es_cons, e_int, es_cons, e_int, es_nil]
  intro o ho
  have k1' : Kp [] σ1 (σ1.set o (.list true (nats [1, 1, 2, 0]))) := Kp.new ho.1
  have ho1 := Sto.set_self σ1 o (.list true (nats [1, 1, 2, 0]))
  have hr1 := k1'.list hr1
  show wpEs _ _ _ _ (σ1.set o (.list true (nats [1, 1, 2, 0])))
  generalize σ1.set o (.list true (nats [1, 1, 2, 0])) = σ1' at *
  rw [es_cons, e_int, es_nil]
  refine sp_byhand (n := n) (m := 2) hr1 ho1 (by decide) (by decide) (by decide) fun σ2 t c l vs ep ht hc hl its k2 _ _ => ?_
  rw [wb_d2] at hc
  rw [wb_i2] at its
  rw [e_tup, es_cons, e_dict, ds_cons, e_int]
  refine ⟨2, rfl, ?_⟩
  rw [e_bytes, ds_cons, e_int]
  refine ⟨1, rfl, ?_⟩
  rw [e_bytes, ds_nil]
  intro d hd epd
  show wpEs _ _ _ _ (σ2.set d (.dict wd2 epd))
  have k3 : Kp [] σ2 (σ2.set d (.dict wd2 epd)) := Kp.new hd.1
  have hd3 := Sto.set_self σ2 d (.dict wd2 epd)
  have ht3 := k3.tup ht
  have hc3 := k3.dict hc
  have hl3 := k3.list hl
  have its3 := its.keep k3
  generalize σ2.set d (.dict wd2 epd) = σ3 at *
  rw [es_cons, e_list, es_cons, e_str, es_cons, e_str, es_cons, e_str, es_cons, e_str, es_nil]
  intro l2 hl2
  have k7 : Kp [] σ3 (σ3.set l2 (.list true [.str "00", .str "22", .str "24", .str "00"])) := Kp.new hl2.1
  have l7 := Sto.set_self σ3 l2 (.list true [.str "00", .str "22", .str "24", .str "00"])
  generalize σ3.set l2 (.list true [.str "00", .str "22", .str "24", .str "00"]) = σ7 at *
  rw [es_nil]
  intro tt htt
  have k8 : Kp [] σ7 (σ7.set tt (.tup [.ref d, .ref l2])) := Kp.new htt.1
  have t8 := Sto.set_self σ7 tt (.tup [.ref d, .ref l2])
  generalize σ7.set tt (.tup [.ref d, .ref l2]) = σ8 at *
  have k38 : Kp [] σ3 σ8 := k7.trans k8
  have its8 : Its σ8 [.str "00", .str "22", .str "24", .str "00"] [.at (.str "00"), .at (.str "22"), .at (.str "24"), .at (.str "00")] := .cons (ItAt.same _) (.cons (ItAt.same _) (.cons (ItAt.same _) (.cons (ItAt.same _) .nil)))
  refine ⟨true, eq_dl (k38.tup ht3) t8 (k38.dict hc3) (k38.dict hd3) (k38.list hl3) (k8.list l7) rfl (fun p hp => getE_self (by decide) hp) wd2_oct (its3.keep k38) its8 (wb_i2 ▸ handF_ok), ?_⟩
  dsimp only
  rw [if_neg (by decide), c_not, c_val, e_fnW, es_cons, e_list, es_cons, e_int, es_cons, e_int, es_nil]
  intro s hs
  have k9 : Kp [] σ8 (σ8.set s (.list true (nats [2, 5]))) := Kp.new hs.1
  have s9 := Sto.set_self σ8 s (.list true (nats [2, 5]))
  show wpEs _ _ _ _ (σ8.set s (.list true (nats [2, 5])))
  generalize σ8.set s (.list true (nats [2, 5])) = σ9 at *
  rw [es_cons, e_bytes, es_nil]
  refine sp_gaps (n := n + 1) s9 (by decide) (by decide) (by decide) fun σ10 k10 => ⟨true, rfl, ?_⟩
  rw [if_neg (by decide), ss_nil_]
  exact h σ10 (((((k1.trans k1').trans k2).trans k3).trans k38).trans (k9.trans k10))
theorem law_b {f : Addr} {rest : PSs} {Q : PostF} {e0 e5 e6 e7 e8 e9 e10 e11 e12 e13 a2 a3 a4 : Option V} {k : Nat} (hf : σ f = some (.taker k)) (hk : k ≤ 10)
    (h : ∀ (σ' : Sto) (r : Addr) (bs : List (Array UInt8)) (mN m : Nat) (k' : Nat), σ' r = some (.list true (bs.map .bytes)) → bs.length ≤ 8 → mN ≤ bs.length → m ≤ 9 → σ' f = some (.taker k') → k' ≤ 100 → r ≠ f → wpSs (P1.gx n) rest Q [e0, some (.ref f), some (.ref r), some (.int (mN : Nat)), some (.int (m : Nat)), e5, e6, e7, e8, e9, e10, e11, e12, e13] σ') :
    wpSs (P1.gx n) (.cons (.asg (.var 2) (.comp (.bi .bytes (.comp (.take (.var 1) (.int 256)) 15 (.bi .range (.take (.var 1) (.int 3))) (.tru))) 14 (.bi .range (.take (.var 1) (.int 7))) (.tru))) (.cons (.asg (.rev [3, 4]) (.tup (.cons (.take (.var 1) (.add (.bi .len (.var 2)) (.int 1))) (.cons (.sub (.tup (.cons (.int 0) (.cons (.int 0) (.cons (.int 3) (.cons (.int 9) .nil))))) (.take (.var 1) (.int 4))) .nil)))) rest)) Q
      [e0, some (.ref f), a2, a3, a4, e5, e6, e7, e8, e9, e10, e11, e12, e13] σ := by
  rw [ss_cons_, s_asg, e_comp, e_bi]
  refine take_at rfl hf (by omega) (by decide) (by decide) fun r r0 r1 => ?_
  have k1 : Kp [f] σ (σ.set f (.taker (k + 1))) := Kp.put hf (by simp [keeps])
  have hf1 := Sto.set_self σ f (.taker (k + 1))
  generalize σ.set f (.taker (k + 1)) = σ1 at *
  refine ⟨r0, by omega, fun a na => ?_⟩
  have k2 : Kp [] σ1 (σ1.set a (.range r.toNat)) := Kp.new na.1
  have ha2 := Sto.set_self σ1 a (.range r.toNat)
  have hf2 := k2.taker hf1
  generalize σ1.set a (.range r.toNat) = σ2 at *
  have hlen : ((List.range r.toNat).map fun (i : Nat) => V.int i).length ≤ 6 := by rw [List.length_map, List.length_range]; omega
  refine ⟨a, _, _, rfl, (look_dyn rfl).trans ha2, rfl, Nat.le_trans hlen (by decide), ?_⟩
  refine rows_comp _ _ [] (k + 1) σ2 rfl rfl hf2 (by omega) ha2 fun σ3 bs k3' k3 hf3 hk3 hbs => ?_
  intro l hl
  have k4 : Kp [] σ3 (σ3.set l (.list true (bs.map .bytes))) := Kp.new hl.1
  have hl4 := Sto.set_self σ3 l (.list true (bs.map .bytes))
  have hf4 := k4.taker hf3
  have nlf : l ≠ f := fun e => by have := hl.1; rw [e, hf3] at this; cases this
  generalize σ3.set l (.list true (bs.map .bytes)) = σ4 at *
  have hb8 : bs.length ≤ 6 := by rw [hbs]; simp; simp at hlen; omega
  rw [t_var]
  refine ⟨by simp, ?_⟩
  show wpSs (P1.gx n) _ Q [e0, some (.ref f), some (.ref l), a3, a4, e5, e6, e7, e8, e9, e10, e11, e12, e13] σ4
  rw [ss_cons_, s_asg, e_tup, es_cons, e_take, e_var]
  refine ⟨_, rfl, ?_⟩
  rw [e_add, e_bi, e_var]
  refine ⟨_, rfl, bi_len ((look_dyn rfl).trans hl4) ?_⟩
  rw [List.length_map, e_int]
  unfold addW
  dsimp only
  refine ⟨k3', hf4, by omega, by omega, by omega, fun j j0 j1 => ?_⟩
  obtain ⟨j, rfl⟩ : ∃ i : Nat, j = (i : Int) := ⟨j.toNat, (Int.toNat_of_nonneg j0).symm⟩
  have k5 : Kp [f] σ4 (σ4.set f (.taker (k3' + 1))) := Kp.put hf4 (by simp [keeps])
  have hf5 := Sto.set_self σ4 f (.taker (k3' + 1))
  have hl5 := k5.list hl4 (by simpa using nlf)
  generalize σ4.set f (.taker (k3' + 1)) = σ5 at *
  rw [es_cons, e_sub, e_tup, es_cons, e_int, es_cons, e_int, es_cons, e_int, es_cons, e_int, es_nil]
  intro t ht
  have k6 : Kp [] σ5 (σ5.set t (.tup [.int 0, .int 0, .int 3, .int 9])) := Kp.new ht.1
  have ht6 := Sto.set_self σ5 t (.tup [.int 0, .int 0, .int 3, .int 9])
  have hf6 := k6.taker hf5
  have hl6 := k6.list hl5
  generalize σ5.set t (.tup [.int 0, .int 0, .int 3, .int 9]) = σ6 at *
  refine take_at rfl hf6 (by omega) (by decide) (by decide) fun i i0 i1 => ?_
  have k7 : Kp [f] σ6 (σ6.set f (.taker (k3' + 1 + 1))) := Kp.put hf6 (by simp [keeps])
  have hf7 := Sto.set_self σ6 f (.taker (k3' + 1 + 1))
  have hl7 := k7.list hl6 (by simpa using nlf)
  have ht7 := k7.tup ht6
  generalize σ6.set f (.taker (k3' + 1 + 1)) = σ7 at *
  have fin : ∀ m : Nat, m ≤ 9 → ∀ t2, New (P1.gx n) σ7 t2 → wpT (P1.gx n) (.rev [3, 4]) (.ref t2) (fun ε' σ' => wpSs (P1.gx n) rest Q ε' σ') [e0, some (.ref f), some (.ref l), a3, a4, e5, e6, e7, e8, e9, e10, e11, e12, e13] (σ7.set t2 (.tup [.int (j : Nat), .int (m : Nat)])) := by
    intro m hm t2 ht2
    have k8 : Kp [] σ7 (σ7.set t2 (.tup [.int (j : Nat), .int (m : Nat)])) := Kp.new ht2.1
    rw [t_rev]
    refine ⟨t2, _, rfl, (look_dyn rfl).trans (Sto.set_self _ _ _), rfl, ?_⟩
    show wpSs (P1.gx n) rest Q [e0, some (.ref f), some (.ref l), some (.int (j : Nat)), some (.int (m : Nat)), e5, e6, e7, e8, e9, e10, e11, e12, e13] _
    exact h _ l bs j m _ (k8.list hl7) (by omega) (by omega) hm (k8.taker hf7) (by omega) nlf
  have hi : i = 0 ∨ i = 1 ∨ i = 2 ∨ i = 3 := by omega
  unfold subW
  dsimp only
  rw [look_dyn rfl, ht7]
  dsimp only
  rcases hi with rfl | rfl | rfl | rfl
  · refine ⟨by decide, by decide, .int 0, rfl, ?_⟩
    rw [es_nil]; exact fin 0 (by decide)
  · refine ⟨by decide, by decide, .int 0, rfl, ?_⟩
    rw [es_nil]; exact fin 0 (by decide)
  · refine ⟨by decide, by decide, .int 3, rfl, ?_⟩
    rw [es_nil]; exact fin 3 (by decide)
  · refine ⟨by decide, by decide, .int 9, rfl, ?_⟩
    rw [es_nil]; exact fin 9 (by decide)
end Mine
end
section
open PySem
set_option Elab.async false
set_option maxRecDepth 100000
namespace Mine
variable {n : Nat} {σ σ' : Sto} {ε : Env0}
@[reducible] noncomputable def st7 : PS := .ite (.or (.cmp .ne (.var 6) (.var 7)) (.cmp .ne (.var 5) (.bi .dict (.comp (.tup (.cons (.add (.var 14) (.int 1)) (.cons (.sub (.var 2) (.var 14)) .nil))) 14 (.bi .range (.var 8)) (.tru))))) (.cons (.ret (.bool false)) .nil) (.nil)
theorem law_c {f r : Addr} {rest : PSs} {Q : PostF} {e0 e5 e6 e7 e8 e9 e10 e11 e12 e13 : Option V} {bs : List (Array UInt8)} {mN m k : Nat} (hr : σ r = some (.list true (bs.map .bytes))) (hbs : bs.length ≤ 8) (hmN : mN ≤ bs.length) (hf : σ f = some (.taker k))
    (h : ∀ (σ' : Sto) (c : Addr) (ep : Nat) (x6 x7 : V), σ' r = some (.list true (bs.map .bytes)) → σ' c = some (.dict (numF (bs.take (capN m bs.length)) 0) ep) → σ' f = some (.taker k) → wpSs (P1.gx (n + 5)) rest Q [e0, some (.ref f), some (.ref r), some (.int (mN : Nat)), some (.int (m : Nat)), some (.ref c), some x6, some x7, some (.int (capN m bs.length : Nat)), e9, e10, e11, e12, e13] σ') :
    wpSs (P1.gx (n + 5)) (.cons (.asg (.tup (.cons (.var 5) (.cons (.var 6) .nil))) (.fn 176 (.cons (.var 2) (.cons (.var 3) (.cons (.var 4) .nil))))) (.cons (.asg (.tup (.cons (.var 7) (.cons (.var 8) .nil))) (.fn 190 (.cons (.var 2) (.cons (.var 3) (.cons (.var 4) .nil))))) (.cons st7 rest))) Q
      [e0, some (.ref f), some (.ref r), some (.int (mN : Nat)), some (.int (m : Nat)), e5, e6, e7, e8, e9, e10, e11, e12, e13] σ := by
  have hcap : capN m bs.length ≤ bs.length := capN_le
  rw [ss_cons_, s_asg, e_fnW, es_cons, e_var]
  refine ⟨_, rfl, ?_⟩
  rw [es_cons, e_var]
  refine ⟨_, rfl, ?_⟩
  rw [es_cons, e_var]
  refine ⟨_, rfl, ?_⟩
  rw [es_nil]
  refine sp_byorder (n := n) (mN := mN) (m := m) hr (by omega) hmN fun σ1 t c l vs ep ht hc hl its k1 _ _ => ?_
  have hr1 := k1.list hr
  have hf1 := k1.taker hf
  rw [t_tup]
  refine ⟨t, _, rfl, (look_dyn rfl).trans ht, rfl, ?_⟩
  rw [ts_cons]
  refine ⟨_, _, rfl, ?_⟩
  rw [t_var]
  refine ⟨by simp, ?_⟩
  rw [ts_cons]
  refine ⟨_, _, rfl, ?_⟩
  rw [t_var]
  refine ⟨by simp, ?_⟩
  rw [ts_nil]
  refine ⟨rfl, ?_⟩
  show wpSs (P1.gx (n + 5)) _ Q [e0, some (.ref f), some (.ref r), some (.int (mN : Nat)), some (.int (m : Nat)), some (.ref c), some (.ref l), e7, e8, e9, e10, e11, e12, e13] σ1
  rw [ss_cons_, s_asg, e_fnW, es_cons, e_var]
  refine ⟨_, rfl, ?_⟩
  rw [es_cons, e_var]
  refine ⟨_, rfl, ?_⟩
  rw [es_cons, e_var]
  refine ⟨_, rfl, ?_⟩
  rw [es_nil]
  refine sp_orddue (n := n + 4) (m := m) hr1 (by omega) fun σ2 t2 l2 vs2 ht2 hl2 its2 k2 => ?_
  have hr2 := k2.list hr1
  have hf2 := k2.taker hf1
  have hc2 := k2.dict hc
  have hl2' := k2.list hl
  have its1 := its.keep k2
  rw [t_tup]
  refine ⟨t2, _, rfl, (look_dyn rfl).trans ht2, rfl, ?_⟩
  rw [ts_cons]
  refine ⟨_, _, rfl, ?_⟩
  rw [t_var]
  refine ⟨by simp, ?_⟩
  rw [ts_cons]
  refine ⟨_, _, rfl, ?_⟩
  rw [t_var]
  refine ⟨by simp, ?_⟩
  rw [ts_nil]
  refine ⟨rfl, ?_⟩
  show wpSs (P1.gx (n + 5)) _ Q [e0, some (.ref f), some (.ref r), some (.int (mN : Nat)), some (.int (m : Nat)), some (.ref c), some (.ref l), some (.ref l2), some (.int (capN m bs.length : Nat)), e9, e10, e11, e12, e13] σ2
  rw [ss_cons_, s_ite, c_or, c_cmp, e_var]
  refine ⟨_, rfl, ?_⟩
  rw [e_var]
  refine ⟨_, rfl, true, eq_lists hl2' rfl hl2 rfl its1 its2 ordIt_ok, ?_⟩
  dsimp only
  rw [if_neg (by decide), c_cmp, e_var]
  refine ⟨_, rfl, ?_⟩
  rw [e_bi, e_comp, e_bi, e_var]
  refine ⟨_, rfl, by omega, by omega, fun a na => ?_⟩
  rw [Int.toNat_natCast]
  generalize hL : capN m bs.length = L at *
  have k3 : Kp [] σ2 (σ2.set a (.range L)) := Kp.new na.1
  have ha3 := Sto.set_self σ2 a (.range L)
  have hr3 := k3.list hr2
  generalize σ2.set a (.range L) = σ3 at *
  refine ⟨a, _, _, rfl, (look_dyn rfl).trans ha3, rfl, by rw [List.length_map, List.length_range]; omega, ?_⟩
  rw [List.range_eq_range']
  refine pairs_comp L 0 _ [] [] σ3 (by omega) (by omega) rfl rfl hr3 ha3 .nil fun σ4 ts k4 its4 => ?_
  intro l3 nl3
  have k5 : Kp [] σ4 (σ4.set l3 (.list true ts)) := Kp.new nl3.1
  have hl5 := Sto.set_self σ4 l3 (.list true ts)
  have its5 := its4.keep k5
  generalize σ4.set l3 (.list true ts) = σ5 at *
  have hps : (numF (bs.take L) 0).map (fun p => It.tup [.int p.1, p.2]) = [] ++ (List.range' 0 L).map fun i => .tup [.int (i + 1 : Nat), .bytes (bs.getD i #[])] := by
    rw [numF_range hcap, List.map_map, List.range_eq_range']; rfl
  rw [← hps] at its5
  have hnd : (keys (numF (bs.take L) 0)).Nodup := numF_nodup
  unfold biW
  dsimp only
  rw [look_dyn rfl, hl5]
  refine ⟨_, pairs_its its5, by rw [numF_length, List.length_take]; omega, fun d nd epd => ?_⟩
  rw [foldl_put _ [] (by rw [List.nil_append]; exact hnd), List.nil_append]
  have k6 : Kp [] σ5 (σ5.set d (.dict (numF (bs.take L) 0) epd)) := Kp.new nd.1
  have hd6 := Sto.set_self σ5 d (.dict (numF (bs.take L) 0) epd)
  have kk : Kp [] σ2 (σ5.set d (.dict (numF (bs.take L) 0) epd)) := (k3.trans k4).trans (k5.trans k6)
  generalize σ5.set d (.dict (numF (bs.take L) 0) epd) = σ6 at *
  refine ⟨true, eq_dicts (numF_good (by rw [List.length_take]; omega)) numF_oct (kk.dict hc2) rfl hd6 rfl, ?_⟩
  dsimp only
  rw [if_neg (by decide), ss_nil_]
  exact h σ6 c ep _ _ (kk.list hr2) (kk.dict hc2) (kk.taker hf2)
theorem law_d {f r : Addr} {rest : PSs} {Q : PostF} {e0 e3 e4 e5 e6 e7 e8 e9 e10 e11 e12 e13 : Option V} {bs : List (Array UInt8)} {k : Nat} (hr : σ r = some (.list true (bs.map .bytes))) (hbs : bs.length ≤ 8) (hf : σ f = some (.taker k)) (hk : k ≤ 100) (nrf : r ≠ f)
    (h : ∀ (σ' : Sto) (o : Addr) (os : List Nat) (x10 : Option V) (k' : Nat), σ' o = some (.list true (nats os)) → (∀ a, a ∈ os ↔ a < bs.length) → os.length ≤ 20 → σ' f = some (.taker k') → k' ≤ 200 → Kp [f] σ σ' → wpSs (P1.gx n) rest Q [e0, some (.ref f), some (.ref r), e3, e4, e5, e6, e7, e8, some (.ref o), x10, e11, e12, e13] σ') :
    wpSs (P1.gx n) (.cons (.asg (.rev [9, 10]) (.tup (.cons (.list (.nil)) (.cons (.bi .list (.bi .range (.bi .len (.var 2)))) .nil)))) (.cons (.while_ (.cmp .ne (.var 10) (.list (.nil))) ord2Body) rest)) Q
      [e0, some (.ref f), some (.ref r), e3, e4, e5, e6, e7, e8, e9, e10, e11, e12, e13] σ := by
  rw [ss_cons_, s_asg, e_tup, es_cons, e_list, es_nil]
  intro o no
  have k1 : Kp [] σ (σ.set o (.list true [])) := Kp.new no.1
  have ho1 := Sto.set_self σ o (.list true [])
  have hr1 := k1.list hr
  have hf1 := k1.taker hf
  generalize σ.set o (.list true []) = σ1 at *
  rw [es_cons, e_bi, e_bi, e_bi, e_var]
  refine ⟨_, rfl, bi_len ((look_dyn rfl).trans hr1) ?_⟩
  rw [List.length_map]
  refine ⟨by omega, by omega, fun a na => ?_⟩
  rw [Int.toNat_natCast]
  have k2 : Kp [] σ1 (σ1.set a (.range bs.length)) := Kp.new na.1
  have ha2 := Sto.set_self σ1 a (.range bs.length)
  have ho2 := k2.list ho1
  have hf2 := k2.taker hf1
  generalize σ1.set a (.range bs.length) = σ2 at *
  refine ⟨_, _, (look_dyn rfl).trans ha2, rfl, (fun _ _ => nofun), by rw [List.length_map, List.length_range]; omega, fun s ns => ?_⟩
  have enats : ((List.range bs.length).map fun i => V.int (i : Nat)) = nats (List.range bs.length) := rfl
  rw [enats]
  have k3 : Kp [] σ2 (σ2.set s (.list true (nats (List.range bs.length)))) := Kp.new ns.1
  have hs3 := Sto.set_self σ2 s (.list true (nats (List.range bs.length)))
  have ho3 := k3.list ho2
  have hf3 := k3.taker hf2
  have nos : o ≠ s := fun e => by have := ns.1; rw [← e, ho2] at this; cases this
  generalize σ2.set s (.list true (nats (List.range bs.length))) = σ3 at *
  dsimp only
  rw [es_nil]
  intro t nt
  have k4 : Kp [] σ3 (σ3.set t (.tup [.ref o, .ref s])) := Kp.new nt.1
  have ht4 := Sto.set_self σ3 t (.tup [.ref o, .ref s])
  have hs4 := k4.list hs3
  have ho4 := k4.list ho3
  have hf4 := k4.taker hf3
  have kk4 : Kp [] σ _ := (k1.trans k2).trans (k3.trans k4)
  have nO : σ o = none := no.1
  have nS : σ s = none := (k1.trans k2).2 _ ns.1
  generalize σ3.set t (.tup [.ref o, .ref s]) = σ4 at *
  rw [t_rev]
  refine ⟨t, _, rfl, (look_dyn rfl).trans ht4, rfl, ?_⟩
  show wpSs (P1.gx n) _ Q [e0, some (.ref f), some (.ref r), e3, e4, e5, e6, e7, e8, some (.ref o), some (.ref s), e11, e12, e13] σ4
  rw [ss_cons_, s_while]
  refine ⟨bs.length + 1, ?_⟩
  refine ord2_loop rfl rfl rfl nos (bs.length + 1) (List.range bs.length) [] k σ4 (by rw [List.length_range]; omega) hf4 (by rw [List.length_range]; omega) ho4 hs4 (by rw [List.length_range]; simp; omega) fun σ5 os k' b1 b2 b3 b4 b5 b6 => ?_
  rw [List.length_range] at b3 b5
  dsimp only
  refine h σ5 o os _ k' b1 (fun a => by rw [b2 a, List.mem_range]; simp) (by simp at b3; omega) b4 (by omega) ?_
  exact Kp.drop nS (Kp.drop nO ((kk4.weak.trans b6).mono (by simp)))
@[reducible] noncomputable def st12 : PS := .ite (.or (.cmp .ne (.var 12) (.var 7)) (.or (.cmp .ne (.var 11) (.var 5)) (.cmp .ne (.bi .sorted (.var 11)) (.bi .sorted (.comp (.add (.var 14) (.int 1)) 14 (.var 13) (.tru)))))) (.cons (.ret (.bool false)) .nil) (.nil)
theorem law_e {f r o c : Addr} {rest : PSs} {Q : PostF} {e0 e3 e6 e7 e8 e10 e11 e12 e13 : Option V} {bs : List (Array UInt8)} {os : List Nat} {m k ep : Nat} (hr : σ r = some (.list true (bs.map .bytes))) (hbs : bs.length ≤ 8) (hf : σ f = some (.taker k)) (ho : σ o = some (.list true (nats os))) (hos : ∀ a, a ∈ os ↔ a < bs.length) (hol : os.length ≤ 20) (hc : σ c = some (.dict (numF (bs.take (capN m bs.length)) 0) ep))
    (h : ∀ (σ' : Sto) (ε' : Env0), σ' f = some (.taker k) → ε'.length = 14 → ε'[1]? = some (some (.ref f)) → wpSs (P1.gx (n + 5)) rest Q ε' σ') :
    wpSs (P1.gx (n + 5)) (.cons (.asg (.tup (.cons (.var 11) (.cons (.var 12) .nil))) (.fn 183 (.cons (.var 2) (.cons (.var 9) (.cons (.var 4) .nil))))) (.cons (.asg (.tup (.cons (.var 7) (.cons (.var 13) .nil))) (.fn 197 (.cons (.var 2) (.cons (.var 9) (.cons (.var 4) .nil))))) (.cons st12 rest))) Q
      [e0, some (.ref f), some (.ref r), e3, some (.int (m : Nat)), some (.ref c), e6, e7, e8, some (.ref o), e10, e11, e12, e13] σ := by
  obtain ⟨hm1, hm2⟩ := hand_all (m := m) hos
  have hcap : capN m bs.length ≤ bs.length := capN_le
  rw [ss_cons_, s_asg, e_fnW, es_cons, e_var]
  refine ⟨_, rfl, ?_⟩
  rw [es_cons, e_var]
  refine ⟨_, rfl, ?_⟩
  rw [es_cons, e_var]
  refine ⟨_, rfl, ?_⟩
  rw [es_nil]
  refine sp_byhand (n := n) (m := m) hr ho (by omega) (fun a ha => (hos a).mp ha) (by omega) fun σ1 t d l vs epd ht hd hl its k1 _ _ => ?_
  have ho1 := k1.list ho
  have hf1 := k1.taker hf
  have hc1 := k1.dict hc
  rw [t_tup]
  refine ⟨t, _, rfl, (look_dyn rfl).trans ht, rfl, ?_⟩
  rw [ts_cons]
  refine ⟨_, _, rfl, ?_⟩
  rw [t_var]
  refine ⟨by simp, ?_⟩
  rw [ts_cons]
  refine ⟨_, _, rfl, ?_⟩
  rw [t_var]
  refine ⟨by simp, ?_⟩
  rw [ts_nil]
  refine ⟨rfl, ?_⟩
  show wpSs (P1.gx (n + 5)) _ Q [e0, some (.ref f), some (.ref r), e3, some (.int (m : Nat)), some (.ref c), e6, e7, e8, some (.ref o), e10, some (.ref d), some (.ref l), e13] σ1
  rw [ss_cons_, s_asg, e_fnW, es_cons, e_var]
  refine ⟨_, rfl, ?_⟩
  rw [es_cons, e_var]
  refine ⟨_, rfl, ?_⟩
  rw [es_cons, e_var]
  refine ⟨_, rfl, ?_⟩
  rw [es_nil]
  refine sp_handdue (n := n + 4) (m := m) ho1 (by omega) fun σ2 t2 l2 u vs2 ht2 hl2 its2 hu2 k2 => ?_
  have hf2 := k2.taker hf1
  have hc2 := k2.dict hc1
  have hd2 := k2.dict hd
  have hl2' := k2.list hl
  have its1 := its.keep k2
  rw [t_tup]
  refine ⟨t2, _, rfl, (look_dyn rfl).trans ht2, rfl, ?_⟩
  rw [ts_cons]
  refine ⟨_, _, rfl, ?_⟩
  rw [t_var]
  refine ⟨by simp, ?_⟩
  rw [ts_cons]
  refine ⟨_, _, rfl, ?_⟩
  rw [t_var]
  refine ⟨by simp, ?_⟩
  rw [ts_nil]
  refine ⟨rfl, ?_⟩
  show wpSs (P1.gx (n + 5)) _ Q [e0, some (.ref f), some (.ref r), e3, some (.int (m : Nat)), some (.ref c), e6, some (.ref l2), e8, some (.ref o), e10, some (.ref d), some (.ref l), some (.ref u)] σ2
  generalize handT m os [] = th at *
  have hthl : th.length ≤ 8 := by omega
  rw [ss_cons_, s_ite, c_or, c_cmp, e_var]
  refine ⟨_, rfl, ?_⟩
  rw [e_var]
  refine ⟨_, rfl, true, eq_lists hl2' rfl hl2 rfl its1 its2 handF_ok, ?_⟩
  dsimp only
  rw [if_neg (by decide), c_or, c_cmp, e_var]
  refine ⟨_, rfl, ?_⟩
  rw [e_var]
  refine ⟨_, rfl, true, eq_dicts2 thF_oct hd2 hc2 (by rw [numF_length, List.length_take]; unfold thF; rw [List.length_map]; omega) (th_in hcap fun a ha => (hm1 a).mp ha), ?_⟩
  dsimp only
  rw [if_neg (by decide), c_cmp, e_bi, e_var]
  refine ⟨_, rfl, bi_sorted ((look_dyn rfl).trans hd2) (by unfold thF; rw [List.length_map]; omega) fun a na => ?_⟩
  have k3 : Kp [] σ2 (σ2.set a (.list true ((sortI (keys (thF bs th))).map .int))) := Kp.new na.1
  have ha3 := Sto.set_self σ2 a (.list true ((sortI (keys (thF bs th))).map .int))
  have hu3 := k3.list hu2
  have hf3 := k3.taker hf2
  generalize σ2.set a (.list true ((sortI (keys (thF bs th))).map .int)) = σ3 at *
  rw [e_bi, e_comp, e_var]
  refine ⟨_, rfl, u, _, _, rfl, (look_dyn rfl).trans hu3, rfl, by unfold nats; rw [List.length_map]; omega, ?_⟩
  refine plus_comp th _ [] σ3 rfl hu3 ?_
  intro b nb
  rw [List.nil_append]
  have k4 : Kp [] σ3 (σ3.set b (.list true (th.map fun a => .int (a + 1 : Nat)))) := Kp.new nb.1
  have hb4 := Sto.set_self σ3 b (.list true (th.map fun a => .int (a + 1 : Nat)))
  have ha4 := k4.list ha3
  have hf4 := k4.taker hf3
  generalize σ3.set b (.list true (th.map fun a => .int (a + 1 : Nat))) = σ4 at *
  have ek : (th.map fun a => V.int (a + 1 : Nat)) = (keys (thF bs th)).map .int := by rw [thF_keys, List.map_map]; rfl
  refine ⟨_, _, keys (thF bs th), (look_dyn rfl).trans hb4, rfl, (fun _ => nofun), (fun _ => nofun), by rw [ek]; exact intsOf_map' _, by rw [thF_keys, List.length_map]; omega, fun e ne => ?_⟩
  have k5 : Kp [] σ4 (σ4.set e (.list true ((sortI (keys (thF bs th))).map .int))) := Kp.new ne.1
  have he5 := Sto.set_self σ4 e (.list true ((sortI (keys (thF bs th))).map .int))
  have ha5 := k5.list ha4
  have hf5 := k5.taker hf4
  generalize σ4.set e (.list true ((sortI (keys (thF bs th))).map .int)) = σ5 at *
  have itsI : ∀ ks : List Int, Its σ5 (ks.map .int) (ks.map fun k => .at (.int k)) := fun ks => by
    induction ks with
    | nil => exact .nil
    | cons k r ih => exact .cons (ItAt.same _) ih
  refine ⟨true, eq_lists ha5 rfl he5 rfl (itsI _) (itsI _) (fun i hi => by obtain ⟨k, _, rfl⟩ := List.mem_map.mp hi; rfl), ?_⟩
  dsimp only
  rw [if_neg (by decide), ss_nil_]
  exact h σ5 _ hf5 rfl rfl
theorem law_f {f : Addr} {k : Nat} (hε : ε.length = 14) (e1 : ε[1]? = some (some (.ref f))) (hf : σ f = some (.taker k)) (hk : k ≤ 200) :
    wpSs (P1.gx (n + 5)) (.cons (.ret (.fn 204 (.cons (.comp (.add (.int 1) (.take (.var 1) (.int 9))) 14 (.bi .range (.take (.var 1) (.int 5))) (.tru)) (.cons (.bi .bytes (.list (.cons (.take (.var 1) (.int 256)) .nil))) .nil)))) .nil) (fun fl _ _ => fl = .ret (.bool true)) ε σ := by
  rw [ss_cons_, s_ret, e_fnW, es_cons, e_comp, e_bi]
  refine take_at e1 hf (by omega) (by decide) (by decide) fun r r0 r1 => ?_
  have k1 : Kp [f] σ (σ.set f (.taker (k + 1))) := Kp.put hf (by simp [keeps])
  have hf1 := Sto.set_self σ f (.taker (k + 1))
  generalize σ.set f (.taker (k + 1)) = σ1 at *
  refine ⟨r0, by omega, fun a na => ?_⟩
  have k2 : Kp [] σ1 (σ1.set a (.range r.toNat)) := Kp.new na.1
  have ha2 := Sto.set_self σ1 a (.range r.toNat)
  have hf2 := k2.taker hf1
  generalize σ1.set a (.range r.toNat) = σ2 at *
  have hlen : ((List.range r.toNat).map fun (i : Nat) => V.int i).length ≤ 4 := by rw [List.length_map, List.length_range]; omega
  refine ⟨a, _, _, rfl, (look_dyn rfl).trans ha2, rfl, Nat.le_trans hlen (by decide), ?_⟩
  refine ones_comp _ _ [] (k + 1) σ2 (by rw [List.getElem?_append_left (by omega)]; exact e1) hf2 (by omega) ha2 (fun a ha => nomatch ha) fun σ3 sp k3' k3 hf3 hk3 hsp hspl => ?_
  intro l hl
  have k4 : Kp [] σ3 (σ3.set l (.list true (nats sp))) := Kp.new hl.1
  have hl4 := Sto.set_self σ3 l (.list true (nats sp))
  have hf4 := k4.taker hf3
  have nlf : l ≠ f := fun e => by have := hl.1; rw [e, hf3] at this; cases this
  generalize σ3.set l (.list true (nats sp)) = σ4 at *
  rw [es_cons, e_bi, e_list, es_cons]
  refine take_at e1 hf4 (by omega) (by decide) (by decide) fun b b0 b1 => ?_
  have k5 : Kp [f] σ4 (σ4.set f (.taker (k3' + 1))) := Kp.put hf4 (by simp [keeps])
  have hl5 := k5.list hl4 (by simpa using nlf)
  generalize σ4.set f (.taker (k3' + 1)) = σ5 at *
  rw [es_nil]
  intro l2 hl2
  have k6 : Kp [] σ5 (σ5.set l2 (.list true [.int b])) := Kp.new hl2.1
  have hl6 := Sto.set_self σ5 l2 (.list true [.int b])
  have hl6' := k6.list hl5
  generalize σ5.set l2 (.list true [.int b]) = σ6 at *
  refine ⟨true, _, [b], [UInt8.ofNat b.toNat], (look_dyn rfl).trans hl6, rfl, ?_, by simp, ?_⟩
  · unfold octets
    rw [if_pos (by omega)]; rfl
  dsimp only
  rw [es_nil]
  refine sp_gaps (n := n + 1) hl6' hsp (by rw [hspl]; simp; simp at hlen; omega) (by simp) fun σ7 k7 => rfl
theorem law_pure {f : Addr} (hf : σ f = some (.taker 0)) : wpSs (P1.gx (n + 5)) b_law (fun fl _ _ => fl = .ret (.bool true)) [none, some (.ref f), none, none, none, none, none, none, none, none, none, none, none, none] σ := by
  rw [ss_cons_]
  refine law_a1 fun σ1 k1 => ?_
  dsimp only
  rw [ss_cons_]
  refine law_a2 fun σ2 k2 => ?_
  dsimp only
  refine law_b ((k1.trans k2).taker hf) (by decide) fun σ3 r bs mN m k hr hbs hmN hm hf3 hk nrf => ?_
  refine law_c hr hbs hmN hf3 fun σ4 c ep x6 x7 hr4 hc4 hf4 => ?_
  refine law_d hr4 hbs hf4 hk nrf fun σ5 o os x10 k' ho hos hol hf5 hk' k5 => ?_
  have ncf : c ≠ f := fun e => by rw [e, hf4] at hc4; cases hc4
  refine law_e (k5.list hr4 (by simpa using nrf)) hbs hf5 ho hos hol (k5.dict hc4 (by simpa using ncf)) fun σ6 ε' hf6 hε e1 => ?_
  exact law_f hε e1 hf6 hk'
end Mine
end
section
open PySem PySem.W PyProof.Rows PySem.SeqAt
set_option Elab.async false
set_option maxRecDepth 100000
set_option maxHeartbeats 4000000
namespace Mine
@[reducible] noncomputable def l1names : List PySem.Str := ["content", "mode", "access", "most", "place", "is_behind", "is_valid", "last", "number"]
@[reducible] noncomputable def kx1 (w : World) (p : Program) (loose : List PySem.Str) (mean : ExcName → Option Value) (mg mb : PySem.Str → Option Value) (base : Heap) (tk : Heap → Addr → Nat → List Addr → Prop) : Kx :=
  ⟨PySem.Challenge.pw_pb0237_02, w, hd1.heap_1 w.params, p, loose, mean, mg, mb, base, l1names, tk⟩
section
variable {w : World} {p : Program} {loose : List PySem.Str} {mean : ExcName → Option Value} {mg mb : PySem.Str → Option Value} {base : Heap} {tk : Heap → Addr → Nat → List Addr → Prop} {P : Px}
theorem hg__law_by_order : nsIn (hd1.heap_1 w.params) mainGlobals "_law_by_order" = some (some (.ref 176)) := by k_is
theorem hg__law_by_hand : nsIn (hd1.heap_1 w.params) mainGlobals "_law_by_hand" = some (some (.ref 183)) := by k_is
theorem hg__law_orders_due : nsIn (hd1.heap_1 w.params) mainGlobals "_law_orders_due" = some (some (.ref 190)) := by k_is
theorem hg__law_hands_due : nsIn (hd1.heap_1 w.params) mainGlobals "_law_hands_due" = some (some (.ref 197)) := by k_is
theorem hg__law_gaps_right : nsIn (hd1.heap_1 w.params) mainGlobals "_law_gaps_right" = some (some (.ref 204)) := by k_is
theorem hg_RelFile : nsIn (hd1.heap_1 w.params) mainGlobals "RelFile" = some (some (.ref 158)) := by k_is
theorem hb_sorted : nsIn (hd1.heap_1 w.params) mainGlobals "sorted" = some none := by k_is
theorem hb_max : nsIn (hd1.heap_1 w.params) mainGlobals "max" = some none := by k_is
theorem hb_dict : nsIn (hd1.heap_1 w.params) mainGlobals "dict" = some none := by k_is
theorem hb_bytes : nsIn (hd1.heap_1 w.params) mainGlobals "bytes" = some none := by k_is
theorem hb_range : nsIn (hd1.heap_1 w.params) mainGlobals "range" = some none := by k_is
theorem hb_len : nsIn (hd1.heap_1 w.params) mainGlobals "len" = some none := by k_is
theorem hb_list : nsIn (hd1.heap_1 w.params) mainGlobals "list" = some none := by k_is
theorem hk__law_by_order : keepIn (hd1.heap_1 w.params) (.ref 176) = true := by k_is
theorem hk__law_by_hand : keepIn (hd1.heap_1 w.params) (.ref 183) = true := by k_is
theorem hk__law_orders_due : keepIn (hd1.heap_1 w.params) (.ref 190) = true := by k_is
theorem hk__law_hands_due : keepIn (hd1.heap_1 w.params) (.ref 197) = true := by k_is
theorem hk__law_gaps_right : keepIn (hd1.heap_1 w.params) (.ref 204) = true := by k_is
theorem hk_RelFile : keepIn (hd1.heap_1 w.params) (.ref 158) = true := by k_is
theorem hk_need : keepIn (hd1.heap_1 w.params) (.ref 84) = true := by k_is
theorem hk_write : keepIn (hd1.heap_1 w.params) (.ref 127) = true := by k_is
theorem ok_init (ht : P.tab 77 = some (.fn b_init 5 5 [.int 0])) : FnOk (kx1 w p loose mean mg mb base tk) P l1meths 77 := by
  refine' fn_enter (κ := (kx1 w p loose mean mg mb base tk)) (vs := [("self", .loc), ("content", .loc), ("mode", .loc), ("access", .loc), ("most", .loc)]) (dvals := [.int 0 266]) ht ?ho ?hdata ?hcd ?hbody ?hclo ?hgl ?hbu ?hd ?hnp ?hbind ?hok ?hco ?hgen ?hk ?h
  case ho => show (hd1.heap_1 w.params).lookup _ = _; k_is
  case hdata => rfl
  case hcd => show codeIn (hd1.heap_1 w.params) _ _ = true; k_is
  case hbody => rfl
  case hclo => rfl
  case hgl => rfl
  case hbu => rfl
  case hd => exact .cons (.int _ _) .nil
  case hnp => decide
  case hbind =>
    intro s args X h1 h2
    have h3 : args.length = 5 ∨ args.length = 4 := by have h2 : 5 ≤ args.length + 1 := h2; omega
    rcases h3 with h3 | h3
    · match args, h3 with
      | [a0, a1, a2, a3, a4], _ =>
        have X : (hd1.heap_1 w.params).In s.heap := X
        exact binds_K X rfl (by k_is) rfl rfl rfl
    · match args, h3 with
      | [a0, a1, a2, a3], _ =>
        have X : (hd1.heap_1 w.params).In s.heap := X
        exact binds_K X rfl (by k_is) rfl rfl rfl
  case hok => decide +kernel
  case hco => rfl
  case hgen => rfl
  case hk => rfl
  intro n G L vars fo
  exact (sss_cons (ss_attr G (by rfl) (by rfl) (se_var fo.eo (by rfl) (by rfl)) (se_var fo.eo (by rfl) (by rfl))) (sss_cons (ss_attr G (by rfl) (by rfl) (se_var fo.eo (by rfl) (by rfl)) (se_var fo.eo (by rfl) (by rfl))) (sss_cons (ss_attr G (by rfl) (by rfl) (se_var fo.eo (by rfl) (by rfl)) (se_var fo.eo (by rfl) (by rfl))) (sss_cons (ss_attr G (by rfl) (by rfl) (se_var fo.eo (by rfl) (by rfl)) (se_var fo.eo (by rfl) (by rfl))) (sss_cons (ss_attr G (by rfl) (by rfl) se_int (se_var fo.eo (by rfl) (by rfl))) (sss_cons (ss_attr G (by rfl) (by rfl) se_bool (se_var fo.eo (by rfl) (by rfl))) (sss_cons (ss_attr G (by rfl) (by rfl) se_bool (se_var fo.eo (by rfl) (by rfl))) (sss_cons (ss_attr G (by rfl) (by rfl) se_int (se_var fo.eo (by rfl) (by rfl))) (sss_cons (ss_if (sc_cmp G (by rfl) (se_var fo.eo (by rfl) (by rfl)) se_str) (sss_cons (ss_expr fo (by rfl) (se_meth G (by rfl) (by rfl) (by rfl) (by rfl) (i := 0) (by rfl) hk_need (se_var fo.eo (by rfl) (by rfl)) (ses_cons (star_cons (by rfl) _) (se_tup G (by decide) (ses_cons (star_cons (by rfl) _) se_str ses_nil)) (ses_cons (star_cons (by rfl) _) se_str ses_nil)))) sss_nil) sss_nil) (sss_cons (ss_if (sc_cmp G (by rfl) (se_var fo.eo (by rfl) (by rfl)) se_str) (sss_cons (ss_expr fo (by rfl) (se_bm (f := .clear) G (by rfl) (by rfl) (by rfl) (by rfl) (se_var fo.eo (by rfl) (by rfl)) ses_nil)) sss_nil) sss_nil) (sss_cons (ss_attr G (by rfl) (by rfl) (se_ite (sc_bool (sa_and (sc_cmp G (by rfl) (se_var fo.eo (by rfl) (by rfl)) se_str) (sa_and_one (sc_val G (fun _ => rfl) (se_var fo.eo (by rfl) (by rfl)))))) (se_bi (f := .max) G fo.eo (by rfl) hb_max (by rfl) (se_var fo.eo (by rfl) (by rfl))) se_int) (se_var fo.eo (by rfl) (by rfl))) sss_nil)))))))))))
theorem ok_need (ht : P.tab 84 = some (.fn b_need 3 3 [])) : FnOk (kx1 w p loose mean mg mb base tk) P l1meths 84 := by
  refine' fn_enter (κ := (kx1 w p loose mean mg mb base tk)) (vs := [("self", .loc), ("some", .loc), ("what", .loc)]) (dvals := []) ht ?ho ?hdata ?hcd ?hbody ?hclo ?hgl ?hbu ?hd ?hnp ?hbind ?hok ?hco ?hgen ?hk ?h
  case ho => show (hd1.heap_1 w.params).lookup _ = _; k_is
  case hdata => rfl
  case hcd => show codeIn (hd1.heap_1 w.params) _ _ = true; k_is
  case hbody => rfl
  case hclo => rfl
  case hgl => rfl
  case hbu => rfl
  case hd => exact .nil
  case hnp => decide
  case hbind =>
    intro s args X h1 h2
    match args, Nat.le_antisymm h1 h2 with
    | [a0, a1, a2], _ => exact BindsTo.of_eq rfl
  case hok => decide +kernel
  case hco => rfl
  case hgen => rfl
  case hk => rfl
  intro n G L vars fo
  exact (sss_cons (ss_if (sc_cmp G (by rfl) (se_attr G (by rfl) (by rfl) (se_var fo.eo (by rfl) (by rfl))) (se_var fo.eo (by rfl) (by rfl))) (sss_cons ss_fail sss_nil) sss_nil) sss_nil)
theorem ok_write (ht : P.tab 127 = some (.fn b_write 3 3 [.int 0])) : FnOk (kx1 w p loose mean mg mb base tk) P l1meths 127 := by
  refine' fn_enter (κ := (kx1 w p loose mean mg mb base tk)) (vs := [("self", .loc), ("octets", .loc), ("number", .loc)]) (dvals := [.int 0 327]) ht ?ho ?hdata ?hcd ?hbody ?hclo ?hgl ?hbu ?hd ?hnp ?hbind ?hok ?hco ?hgen ?hk ?h
  case ho => show (hd1.heap_1 w.params).lookup _ = _; k_is
  case hdata => rfl
  case hcd => show codeIn (hd1.heap_1 w.params) _ _ = true; k_is
  case hbody => rfl
  case hclo => rfl
  case hgl => rfl
  case hbu => rfl
  case hd => exact .cons (.int _ _) .nil
  case hnp => decide
  case hbind =>
    intro s args X h1 h2
    have h3 : args.length = 3 ∨ args.length = 2 := by have h2 : 3 ≤ args.length + 1 := h2; omega
    rcases h3 with h3 | h3
    · match args, h3 with
      | [a0, a1, a2], _ =>
        have X : (hd1.heap_1 w.params).In s.heap := X
        exact binds_K X rfl (by k_is) rfl rfl rfl
    · match args, h3 with
      | [a0, a1], _ =>
        have X : (hd1.heap_1 w.params).In s.heap := X
        exact binds_K X rfl (by k_is) rfl rfl rfl
  case hok => decide +kernel
  case hco => rfl
  case hgen => rfl
  case hk => rfl
  intro n G L vars fo
  exact (sss_cons (ss_attr G (by rfl) (by rfl) se_int (se_var fo.eo (by rfl) (by rfl))) (sss_cons (ss_if (sc_cmp G (by rfl) (se_attr G (by rfl) (by rfl) (se_var fo.eo (by rfl) (by rfl))) se_str) (sss_cons (ss_if (sc_cmp G (by rfl) (se_attr G (by rfl) (by rfl) (se_var fo.eo (by rfl) (by rfl))) (se_tup G (by decide) (ses_cons (star_cons (by rfl) _) se_str (ses_cons (star_cons (by rfl) _) se_str ses_nil)))) (sss_cons (ss_ret se_str) sss_nil) sss_nil) (sss_cons (ss_name G fo (by rfl) (by rfl) (se_add G (se_attr G (by rfl) (by rfl) (se_var fo.eo (by rfl) (by rfl))) se_int)) sss_nil)) (sss_cons (ss_if (sc_cmp G (by rfl) (se_attr G (by rfl) (by rfl) (se_var fo.eo (by rfl) (by rfl))) (se_tup G (by decide) (ses_cons (star_cons (by rfl) _) se_str (ses_cons (star_cons (by rfl) _) se_str ses_nil)))) (sss_cons (ss_ret se_str) sss_nil) sss_nil) sss_nil)) (sss_cons (ss_if (sc_bool (sa_or (sc_cmp G (by rfl) (se_var fo.eo (by rfl) (by rfl)) se_int) (sa_or_one (sc_chain G (by rfl) se_int (se_attr G (by rfl) (by rfl) (se_var fo.eo (by rfl) (by rfl))) (se_var fo.eo (by rfl) (by rfl)))))) (sss_cons (ss_ret se_str) sss_nil) sss_nil) (sss_cons (ss_if (sc_cmp G (by rfl) (se_var fo.eo (by rfl) (by rfl)) (se_attr G (by rfl) (by rfl) (se_var fo.eo (by rfl) (by rfl)))) (sss_cons (ss_ret se_str) sss_nil) sss_nil) (sss_cons (ss_sub G (by rfl) (se_bi (f := .bytes) G fo.eo (by rfl) hb_bytes (by rfl) (se_var fo.eo (by rfl) (by rfl))) (se_attr G (by rfl) (by rfl) (se_var fo.eo (by rfl) (by rfl))) (se_var fo.eo (by rfl) (by rfl))) (sss_cons (ss_attr G (by rfl) (by rfl) (se_var fo.eo (by rfl) (by rfl)) (se_var fo.eo (by rfl) (by rfl))) (sss_cons (ss_ret se_str) sss_nil)))))))
theorem ok_law_by_order (ht : P.tab 176 = some (.fn b_law_by_order 8 3 [])) : FnOk (kx1 w p loose mean mg mb base tk) P l1meths 176 := by
  refine' fn_enter (κ := (kx1 w p loose mean mg mb base tk)) (vs := [("rows", .loc), ("many", .loc), ("most", .loc), ("content", .loc), ("told", .loc), ("first", .loc), ("row", .loc), ("second", .loc)]) (dvals := []) ht ?ho ?hdata ?hcd ?hbody ?hclo ?hgl ?hbu ?hd ?hnp ?hbind ?hok ?hco ?hgen ?hk ?h
  case ho => show (hd1.heap_1 w.params).lookup _ = _; k_is
  case hdata => rfl
  case hcd => show codeIn (hd1.heap_1 w.params) _ _ = true; k_is
  case hbody => rfl
  case hclo => rfl
  case hgl => rfl
  case hbu => rfl
  case hd => exact .nil
  case hnp => decide
  case hbind =>
    intro s args X h1 h2
    match args, Nat.le_antisymm h1 h2 with
    | [a0, a1, a2], _ => exact BindsTo.of_eq rfl
  case hok => decide +kernel
  case hco => rfl
  case hgen => rfl
  case hk => rfl
  intro n G L vars fo
  with_reducible exact (sss_cons (ss_swap G fo (ns := ["content", "told"]) (by with_unfolding_all rfl) (by with_unfolding_all rfl) (by with_unfolding_all rfl) (by with_unfolding_all rfl) (se_tup G (by with_unfolding_all decide) (ses_cons (star_cons (by with_unfolding_all rfl) _) (se_dict G (by with_unfolding_all rfl) (by with_unfolding_all rfl) (by with_unfolding_all simp) (by with_unfolding_all decide) (sds_cons se_int se_bytes sds_nil)) (ses_cons (star_cons (by with_unfolding_all rfl) _) (se_list G (by with_unfolding_all decide) ses_nil) ses_nil)))) (sss_cons (ss_name G fo (by with_unfolding_all rfl) (by with_unfolding_all rfl) (se_fn G fo.eo (by with_unfolding_all rfl) hg_RelFile (by with_unfolding_all rfl) hk_RelFile (by with_unfolding_all rfl) (ses_cons (star_cons (by with_unfolding_all rfl) _) (se_var fo.eo (by with_unfolding_all rfl) (by with_unfolding_all rfl)) (ses_cons (star_cons (by with_unfolding_all rfl) _) se_str (ses_cons (star_cons (by with_unfolding_all rfl) _) se_str (ses_cons (star_cons (by with_unfolding_all rfl) _) (se_var fo.eo (by with_unfolding_all rfl) (by with_unfolding_all rfl)) ses_nil)))))) (sss_cons (ss_for G fo (by with_unfolding_all exact fun _ => rfl) (se_upto G (by with_unfolding_all exact fun _ _ => rfl) (se_var fo.eo (by with_unfolding_all rfl) (by with_unfolding_all rfl)) (se_var fo.eo (by with_unfolding_all rfl) (by with_unfolding_all rfl))) (tt_var G fo (by with_unfolding_all rfl)) (sss_cons (ss_expr fo (by with_unfolding_all rfl) (se_bm (f := .append) G (by with_unfolding_all rfl) (by with_unfolding_all rfl) (by with_unfolding_all rfl) (by with_unfolding_all rfl) (se_var fo.eo (by with_unfolding_all rfl) (by with_unfolding_all rfl)) (ses_cons (star_cons (by with_unfolding_all rfl) _) (se_tup G (by with_unfolding_all decide) (ses_cons (star_cons (by with_unfolding_all rfl) _) (se_meth G (by with_unfolding_all rfl) (by with_unfolding_all rfl) (by with_unfolding_all rfl) (by with_unfolding_all rfl) (i := 1) (by with_unfolding_all rfl) hk_write (se_var fo.eo (by with_unfolding_all rfl) (by with_unfolding_all rfl)) (ses_cons (star_cons (by with_unfolding_all rfl) _) (se_var fo.eo (by with_unfolding_all rfl) (by with_unfolding_all rfl)) ses_nil)) (ses_cons (star_cons (by with_unfolding_all rfl) _) (se_attr G (by with_unfolding_all rfl) (by with_unfolding_all rfl) (se_var fo.eo (by with_unfolding_all rfl) (by with_unfolding_all rfl))) ses_nil))) ses_nil))) sss_nil)) (sss_cons (ss_name G fo (by with_unfolding_all rfl) (by with_unfolding_all rfl) (se_fn G fo.eo (by with_unfolding_all rfl) hg_RelFile (by with_unfolding_all rfl) hk_RelFile (by with_unfolding_all rfl) (ses_cons (star_cons (by with_unfolding_all rfl) _) (se_var fo.eo (by with_unfolding_all rfl) (by with_unfolding_all rfl)) (ses_cons (star_cons (by with_unfolding_all rfl) _) se_str (ses_cons (star_cons (by with_unfolding_all rfl) _) se_str (ses_cons (star_cons (by with_unfolding_all rfl) _) (se_var fo.eo (by with_unfolding_all rfl) (by with_unfolding_all rfl)) ses_nil)))))) (sss_cons (ss_for G fo (by with_unfolding_all exact fun _ => rfl) (se_from G (by with_unfolding_all exact fun _ _ => rfl) (se_var fo.eo (by with_unfolding_all rfl) (by with_unfolding_all rfl)) (se_var fo.eo (by with_unfolding_all rfl) (by with_unfolding_all rfl))) (tt_var G fo (by with_unfolding_all rfl)) (sss_cons (ss_expr fo (by with_unfolding_all rfl) (se_bm (f := .append) G (by with_unfolding_all rfl) (by with_unfolding_all rfl) (by with_unfolding_all rfl) (by with_unfolding_all rfl) (se_var fo.eo (by with_unfolding_all rfl) (by with_unfolding_all rfl)) (ses_cons (star_cons (by with_unfolding_all rfl) _) (se_tup G (by with_unfolding_all decide) (ses_cons (star_cons (by with_unfolding_all rfl) _) (se_meth G (by with_unfolding_all rfl) (by with_unfolding_all rfl) (by with_unfolding_all rfl) (by with_unfolding_all rfl) (i := 1) (by with_unfolding_all rfl) hk_write (se_var fo.eo (by with_unfolding_all rfl) (by with_unfolding_all rfl)) (ses_cons (star_cons (by with_unfolding_all rfl) _) (se_var fo.eo (by with_unfolding_all rfl) (by with_unfolding_all rfl)) ses_nil)) (ses_cons (star_cons (by with_unfolding_all rfl) _) (se_attr G (by with_unfolding_all rfl) (by with_unfolding_all rfl) (se_var fo.eo (by with_unfolding_all rfl) (by with_unfolding_all rfl))) ses_nil))) ses_nil))) sss_nil)) (sss_cons (ss_ret (se_tup G (by with_unfolding_all decide) (ses_cons (star_cons (by with_unfolding_all rfl) _) (se_var fo.eo (by with_unfolding_all rfl) (by with_unfolding_all rfl)) (ses_cons (star_cons (by with_unfolding_all rfl) _) (se_var fo.eo (by with_unfolding_all rfl) (by with_unfolding_all rfl)) ses_nil)))) sss_nil))))))
theorem ok_law_by_hand (ht : P.tab 183 = some (.fn b_law_by_hand 7 3 [])) : FnOk (kx1 w p loose mean mg mb base tk) P l1meths 183 := by
  refine' fn_enter (κ := (kx1 w p loose mean mg mb base tk)) (vs := [("rows", .loc), ("order", .loc), ("most", .loc), ("content", .loc), ("told", .loc), ("open_file", .loc), ("at", .loc)]) (dvals := []) ht ?ho ?hdata ?hcd ?hbody ?hclo ?hgl ?hbu ?hd ?hnp ?hbind ?hok ?hco ?hgen ?hk ?h
  case ho => show (hd1.heap_1 w.params).lookup _ = _; k_is
  case hdata => rfl
  case hcd => show codeIn (hd1.heap_1 w.params) _ _ = true; k_is
  case hbody => rfl
  case hclo => rfl
  case hgl => rfl
  case hbu => rfl
  case hd => exact .nil
  case hnp => decide
  case hbind =>
    intro s args X h1 h2
    match args, Nat.le_antisymm h1 h2 with
    | [a0, a1, a2], _ => exact BindsTo.of_eq rfl
  case hok => decide +kernel
  case hco => rfl
  case hgen => rfl
  case hk => rfl
  intro n G L vars fo
  with_reducible exact (sss_cons (ss_swap G fo (ns := ["content", "told"]) (by with_unfolding_all rfl) (by with_unfolding_all rfl) (by with_unfolding_all rfl) (by with_unfolding_all rfl) (se_tup G (by with_unfolding_all decide) (ses_cons (star_cons (by with_unfolding_all rfl) _) (se_dict G (by with_unfolding_all rfl) (by with_unfolding_all rfl) (by with_unfolding_all simp) (by with_unfolding_all decide) (sds_cons se_int se_bytes sds_nil)) (ses_cons (star_cons (by with_unfolding_all rfl) _) (se_list G (by with_unfolding_all decide) ses_nil) ses_nil)))) (sss_cons (ss_name G fo (by with_unfolding_all rfl) (by with_unfolding_all rfl) (se_fn G fo.eo (by with_unfolding_all rfl) hg_RelFile (by with_unfolding_all rfl) hk_RelFile (by with_unfolding_all rfl) (ses_cons (star_cons (by with_unfolding_all rfl) _) (se_var fo.eo (by with_unfolding_all rfl) (by with_unfolding_all rfl)) (ses_cons (star_cons (by with_unfolding_all rfl) _) se_str (ses_cons (star_cons (by with_unfolding_all rfl) _) se_str (ses_cons (star_cons (by with_unfolding_all rfl) _) (se_var fo.eo (by with_unfolding_all rfl) (by with_unfolding_all rfl)) ses_nil)))))) (sss_cons (ss_for G fo (by with_unfolding_all exact fun _ => rfl) (se_var fo.eo (by with_unfolding_all rfl) (by with_unfolding_all rfl)) (tt_var G fo (by with_unfolding_all rfl)) (sss_cons (ss_expr fo (by with_unfolding_all rfl) (se_bm (f := .append) G (by with_unfolding_all rfl) (by with_unfolding_all rfl) (by with_unfolding_all rfl) (by with_unfolding_all rfl) (se_var fo.eo (by with_unfolding_all rfl) (by with_unfolding_all rfl)) (ses_cons (star_cons (by with_unfolding_all rfl) _) (se_meth G (by with_unfolding_all rfl) (by with_unfolding_all rfl) (by with_unfolding_all rfl) (by with_unfolding_all rfl) (i := 1) (by with_unfolding_all rfl) hk_write (se_var fo.eo (by with_unfolding_all rfl) (by with_unfolding_all rfl)) (ses_cons (star_cons (by with_unfolding_all rfl) _) (se_sub G (by with_unfolding_all exact fun _ _ => rfl) (se_var fo.eo (by with_unfolding_all rfl) (by with_unfolding_all rfl)) (se_var fo.eo (by with_unfolding_all rfl) (by with_unfolding_all rfl))) (ses_cons (star_cons (by with_unfolding_all rfl) _) (se_add G (se_var fo.eo (by with_unfolding_all rfl) (by with_unfolding_all rfl)) se_int) ses_nil))) ses_nil))) sss_nil)) (sss_cons (ss_ret (se_tup G (by with_unfolding_all decide) (ses_cons (star_cons (by with_unfolding_all rfl) _) (se_var fo.eo (by with_unfolding_all rfl) (by with_unfolding_all rfl)) (ses_cons (star_cons (by with_unfolding_all rfl) _) (se_var fo.eo (by with_unfolding_all rfl) (by with_unfolding_all rfl)) ses_nil)))) sss_nil))))
theorem ok_law_orders_due (ht : P.tab 190 = some (.fn b_law_orders_due 6 3 [])) : FnOk (kx1 w p loose mean mg mb base tk) P l1meths 190 := by
  refine' fn_enter (κ := (kx1 w p loose mean mg mb base tk)) (vs := [("rows", .loc), ("many", .loc), ("most", .loc), ("told", .loc), ("last", .loc), ("at", .loc)]) (dvals := []) ht ?ho ?hdata ?hcd ?hbody ?hclo ?hgl ?hbu ?hd ?hnp ?hbind ?hok ?hco ?hgen ?hk ?h
  case ho => show (hd1.heap_1 w.params).lookup _ = _; k_is
  case hdata => rfl
  case hcd => show codeIn (hd1.heap_1 w.params) _ _ = true; k_is
  case hbody => rfl
  case hclo => rfl
  case hgl => rfl
  case hbu => rfl
  case hd => exact .nil
  case hnp => decide
  case hbind =>
    intro s args X h1 h2
    match args, Nat.le_antisymm h1 h2 with
    | [a0, a1, a2], _ => exact BindsTo.of_eq rfl
  case hok => decide +kernel
  case hco => rfl
  case hgen => rfl
  case hk => rfl
  intro n G L vars fo
  exact (sss_cons (ss_swap G fo (ns := ["told", "last"]) (by rfl) (by rfl) (by rfl) (by rfl) (se_tup G (by decide) (ses_cons (star_cons (by rfl) _) (se_list G (by decide) ses_nil) (ses_cons (star_cons (by rfl) _) se_int ses_nil)))) (sss_cons (ss_for G fo (fun _ => rfl) (se_bi (f := .range) G fo.eo (by rfl) hb_range (by rfl) (se_bi (f := .len) G fo.eo (by rfl) hb_len (by rfl) (se_var fo.eo (by rfl) (by rfl)))) (tt_var G fo (by rfl)) (sss_cons (ss_if (sc_chain G (by rfl) se_int (se_var fo.eo (by rfl) (by rfl)) (se_add G (se_var fo.eo (by rfl) (by rfl)) se_int)) (sss_cons (ss_expr fo (by rfl) (se_bm (f := .append) G (by rfl) (by rfl) (by rfl) (by rfl) (se_var fo.eo (by rfl) (by rfl)) (ses_cons (star_cons (by rfl) _) (se_tup G (by decide) (ses_cons (star_cons (by rfl) _) se_str (ses_cons (star_cons (by rfl) _) (se_var fo.eo (by rfl) (by rfl)) ses_nil))) ses_nil))) sss_nil) (sss_cons (ss_name G fo (by rfl) (by rfl) (se_add G (se_var fo.eo (by rfl) (by rfl)) se_int)) (sss_cons (ss_expr fo (by rfl) (se_bm (f := .append) G (by rfl) (by rfl) (by rfl) (by rfl) (se_var fo.eo (by rfl) (by rfl)) (ses_cons (star_cons (by rfl) _) (se_tup G (by decide) (ses_cons (star_cons (by rfl) _) se_str (ses_cons (star_cons (by rfl) _) (se_var fo.eo (by rfl) (by rfl)) ses_nil))) ses_nil))) sss_nil))) sss_nil)) (sss_cons (ss_ret (se_tup G (by decide) (ses_cons (star_cons (by rfl) _) (se_var fo.eo (by rfl) (by rfl)) (ses_cons (star_cons (by rfl) _) (se_var fo.eo (by rfl) (by rfl)) ses_nil)))) sss_nil)))
theorem ok_law_hands_due (ht : P.tab 197 = some (.fn b_law_hands_due 6 3 [])) : FnOk (kx1 w p loose mean mg mb base tk) P l1meths 197 := by
  refine' fn_enter (κ := (kx1 w p loose mean mg mb base tk)) (vs := [("rows", .loc), ("order", .loc), ("most", .loc), ("told", .loc), ("there", .loc), ("at", .loc)]) (dvals := []) ht ?ho ?hdata ?hcd ?hbody ?hclo ?hgl ?hbu ?hd ?hnp ?hbind ?hok ?hco ?hgen ?hk ?h
  case ho => show (hd1.heap_1 w.params).lookup _ = _; k_is
  case hdata => rfl
  case hcd => show codeIn (hd1.heap_1 w.params) _ _ = true; k_is
  case hbody => rfl
  case hclo => rfl
  case hgl => rfl
  case hbu => rfl
  case hd => exact .nil
  case hnp => decide
  case hbind =>
    intro s args X h1 h2
    match args, Nat.le_antisymm h1 h2 with
    | [a0, a1, a2], _ => exact BindsTo.of_eq rfl
  case hok => decide +kernel
  case hco => rfl
  case hgen => rfl
  case hk => rfl
  intro n G L vars fo
  exact (sss_cons (ss_swap G fo (ns := ["told", "there"]) (by rfl) (by rfl) (by rfl) (by rfl) (se_tup G (by decide) (ses_cons (star_cons (by rfl) _) (se_list G (by decide) ses_nil) (ses_cons (star_cons (by rfl) _) (se_list G (by decide) ses_nil) ses_nil)))) (sss_cons (ss_for G fo (fun _ => rfl) (se_var fo.eo (by rfl) (by rfl)) (tt_var G fo (by rfl)) (sss_cons (ss_if (sc_chain G (by rfl) se_int (se_var fo.eo (by rfl) (by rfl)) (se_add G (se_var fo.eo (by rfl) (by rfl)) se_int)) (sss_cons (ss_expr fo (by rfl) (se_bm (f := .append) G (by rfl) (by rfl) (by rfl) (by rfl) (se_var fo.eo (by rfl) (by rfl)) (ses_cons (star_cons (by rfl) _) se_str ses_nil))) sss_nil) (sss_cons (ss_if (sc_cmp G (by rfl) (se_var fo.eo (by rfl) (by rfl)) (se_var fo.eo (by rfl) (by rfl))) (sss_cons (ss_expr fo (by rfl) (se_bm (f := .append) G (by rfl) (by rfl) (by rfl) (by rfl) (se_var fo.eo (by rfl) (by rfl)) (ses_cons (star_cons (by rfl) _) se_str ses_nil))) sss_nil) (sss_cons (ss_expr fo (by rfl) (se_bm (f := .append) G (by rfl) (by rfl) (by rfl) (by rfl) (se_var fo.eo (by rfl) (by rfl)) (ses_cons (star_cons (by rfl) _) se_str ses_nil))) (sss_cons (ss_expr fo (by rfl) (se_bm (f := .append) G (by rfl) (by rfl) (by rfl) (by rfl) (se_var fo.eo (by rfl) (by rfl)) (ses_cons (star_cons (by rfl) _) (se_var fo.eo (by rfl) (by rfl)) ses_nil))) sss_nil))) sss_nil)) sss_nil)) (sss_cons (ss_ret (se_tup G (by decide) (ses_cons (star_cons (by rfl) _) (se_var fo.eo (by rfl) (by rfl)) (ses_cons (star_cons (by rfl) _) (se_var fo.eo (by rfl) (by rfl)) ses_nil)))) sss_nil)))
theorem ok_law_gaps_right (ht : P.tab 204 = some (.fn b_law_gaps_right 10 2 [])) : FnOk (kx1 w p loose mean mg mb base tk) P l1meths 204 := by
  refine' fn_enter (κ := (kx1 w p loose mean mg mb base tk)) (vs := [("spots", .loc), ("row", .loc), ("content", .loc), ("open_file", .loc), ("place", .loc), ("before", .loc), ("later", .loc), ("told", .loc), ("due", .loc), ("greatest", .loc)]) (dvals := []) ht ?ho ?hdata ?hcd ?hbody ?hclo ?hgl ?hbu ?hd ?hnp ?hbind ?hok ?hco ?hgen ?hk ?h
  case ho => show (hd1.heap_1 w.params).lookup _ = _; k_is
  case hdata => rfl
  case hcd => show codeIn (hd1.heap_1 w.params) _ _ = true; k_is
  case hbody => rfl
  case hclo => rfl
  case hgl => rfl
  case hbu => rfl
  case hd => exact .nil
  case hnp => decide
  case hbind =>
    intro s args X h1 h2
    match args, Nat.le_antisymm h1 h2 with
    | [a0, a1], _ => exact BindsTo.of_eq rfl
  case hok => decide +kernel
  case hco => rfl
  case hgen => rfl
  case hk => rfl
  intro n G L vars fo
  exact (sss_cons (ss_name G fo (by rfl) (by rfl) (se_dict0 G)) (sss_cons (ss_name G fo (by rfl) (by rfl) (se_fn G fo.eo (by rfl) hg_RelFile (by rfl) hk_RelFile (by rfl) (ses_cons (star_cons (by rfl) _) (se_var fo.eo (by rfl) (by rfl)) (ses_cons (star_cons (by rfl) _) se_str (ses_cons (star_cons (by rfl) _) se_str ses_nil))))) (sss_cons (ss_for G fo (fun _ => rfl) (se_var fo.eo (by rfl) (by rfl)) (tt_var G fo (by rfl)) (sss_cons (ss_expr fo (by rfl) (se_meth G (by rfl) (by rfl) (by rfl) (by rfl) (i := 1) (by rfl) hk_write (se_var fo.eo (by rfl) (by rfl)) (ses_cons (star_cons (by rfl) _) (se_bi (f := .bytes) G fo.eo (by rfl) hb_bytes (by rfl) (se_list G (by decide) (ses_cons (star_cons (by rfl) _) (se_var fo.eo (by rfl) (by rfl)) ses_nil))) (ses_cons (star_cons (by rfl) _) (se_var fo.eo (by rfl) (by rfl)) ses_nil)))) sss_nil)) (sss_cons (ss_name G fo (by rfl) (by rfl) (se_bi (f := .dict) G fo.eo (by rfl) hb_dict (by rfl) (se_var fo.eo (by rfl) (by rfl)))) (sss_cons (ss_name G fo (by rfl) (by rfl) (se_fn G fo.eo (by rfl) hg_RelFile (by rfl) hk_RelFile (by rfl) (ses_cons (star_cons (by rfl) _) (se_var fo.eo (by rfl) (by rfl)) (ses_cons (star_cons (by rfl) _) se_str (ses_cons (star_cons (by rfl) _) se_str ses_nil))))) (sss_cons (ss_name G fo (by rfl) (by rfl) (se_list G (by decide) (ses_cons (star_cons (by rfl) _) (se_meth G (by rfl) (by rfl) (by rfl) (by rfl) (i := 1) (by rfl) hk_write (se_var fo.eo (by rfl) (by rfl)) (ses_cons (star_cons (by rfl) _) (se_var fo.eo (by rfl) (by rfl)) ses_nil)) (ses_cons (star_cons (by rfl) _) (se_meth G (by rfl) (by rfl) (by rfl) (by rfl) (i := 1) (by rfl) hk_write (se_var fo.eo (by rfl) (by rfl)) (ses_cons (star_cons (by rfl) _) (se_add G (se_var fo.eo (by rfl) (by rfl)) se_bytes) ses_nil)) ses_nil)))) (sss_cons (ss_name G fo (by rfl) (by rfl) (se_bi (f := .dict) G fo.eo (by rfl) hb_dict (by rfl) (se_var fo.eo (by rfl) (by rfl)))) (sss_cons (ss_name G fo (by rfl) (by rfl) (se_bi (f := .max) G fo.eo (by rfl) hb_max (by rfl) (se_add G (se_list G (by decide) (ses_cons (star_cons (by rfl) _) se_int ses_nil)) (se_var fo.eo (by rfl) (by rfl))))) (sss_cons (ss_tup (by rfl) (by rfl) (se_tup G (by decide) (ses_cons (star_cons (by rfl) _) (se_var fo.eo (by rfl) (by rfl)) (ses_cons (star_cons (by rfl) _) (se_add G (se_var fo.eo (by rfl) (by rfl)) se_bytes) ses_nil))) (tt_tup G (tts_cons (by rfl) (tt_sub G (se_var fo.eo (by rfl) (by rfl)) (se_add G (se_var fo.eo (by rfl) (by rfl)) se_int)) (tts_cons (by rfl) (tt_sub G (se_var fo.eo (by rfl) (by rfl)) (se_add G (se_var fo.eo (by rfl) (by rfl)) se_int)) tts_nil)))) (sss_cons (ss_ret (se_andC G (se_cmp G (by rfl) (se_var fo.eo (by rfl) (by rfl)) (se_list G (by decide) (ses_cons (star_cons (by rfl) _) se_str (ses_cons (star_cons (by rfl) _) se_str ses_nil)))) (se_and G (se_cmp G (by rfl) (se_var fo.eo (by rfl) (by rfl)) (se_var fo.eo (by rfl) (by rfl))) (se_cmp G (by rfl) (se_attr G (by rfl) (by rfl) (se_var fo.eo (by rfl) (by rfl))) (se_add G (se_var fo.eo (by rfl) (by rfl)) se_int))))) sss_nil))))))))))
end
end Mine
end
open PySem PySem.W PyProof.Rows PySem.SeqAt
set_option Elab.async false
set_option maxRecDepth 100000
set_option maxHeartbeats 4000000
namespace Mine
noncomputable def StatOk (K : Frag) (p : Addr × AO) : Prop := match p.2 with
  | .tup xs => ∃ ob vs, K.lookup p.1 = some ob ∧ ob.cls = .type "tuple" ∧ (∃ n, ob.data = .seq (vs : List Value).toArray n) ∧ Vals vs xs
  | .list false xs => ∃ vs n, K.lookup p.1 = some (listOf (vs : List Value).toArray n) ∧ Vals vs xs ∧ xs.length ≤ 1000000
  | _ => False
theorem lookup_mem {α : Type} : ∀ {l : List (Addr × α)} {a : Addr} {o : α}, l.lookup a = some o → (a, o) ∈ l
  | (k, v) :: r, a, o, h => by
    rw [List.lookup_cons] at h
    cases hb : a == k with
    | true => rw [hb] at h; cases h; rw [beq_iff_eq.mp hb]; exact List.mem_cons_self
    | false => rw [hb] at h; exact List.mem_cons_of_mem _ (lookup_mem h)
theorem stat_ok {κ : Kx} (O : κ.Ok) {l : List (Addr × AO)} (h : ∀ p ∈ l, StatOk κ.K p) (a : Addr) (o : AO) (e : l.lookup a = some o) : (∃ ob, κ.base.get? a = some ob) ∧ ∀ σ h, κ.base.StaysIn h → Sits κ σ h a o := by
  have z := h _ (lookup_mem e)
  unfold StatOk at z
  split at z
  · rename_i xs he
    dsimp only at he z
    subst he
    obtain ⟨ob, vs, h1, h2, ⟨n, h3⟩, h4⟩ := z
    exact ⟨⟨_, O.X _ _ h1⟩, fun σ h st => ⟨vs, ⟨ob, st _ _ (O.X _ _ h1), h2, n, h3⟩, h4⟩⟩
  · rename_i xs he
    dsimp only at he z
    subst he
    obtain ⟨vs, n, h1, h2, h3⟩ := z
    exact ⟨⟨_, O.X _ _ h1⟩, fun σ h st => ⟨vs, n, st _ _ (O.X _ _ h1), h2, (fun h => by cases h), h3⟩⟩
  · exact z.elim
theorem stat_still {K : Frag} {l : List (Addr × AO)} (h : ∀ p ∈ l, StatOk K p) (a : Addr) (o : AO) (e : l.lookup a = some o) : (∃ xs, o = .list false xs) ∨ ∃ xs, o = .tup xs := by
  have z := h _ (lookup_mem e)
  unfold StatOk at z
  split at z
  · rename_i xs he; exact .inr ⟨xs, he⟩
  · rename_i xs he; exact .inl ⟨xs, he⟩
  · exact z.elim
section
variable {w : World} {p : Program} {loose : List PySem.Str} {mean : ExcName → Option Value} {mg mb : PySem.Str → Option Value} {base : Heap}
theorem l1statOk : ∀ q ∈ l1stat, StatOk (hd1.heap_1 w.params) q := by
  repeat' (first | exact List.forall_mem_nil _ | refine List.forall_mem_cons.mpr ⟨?_, ?_⟩)
  all_goals first
    | (refine' stat_one ?h1 ?h2 ?h3 ?h4
       case h1 => k_is
       case h2 => rfl
       case h3 => rfl
       case h4 => repeat (first | exact .nil | refine .cons (by constructor) ?_))
    | (refine' stat_two ?h1 ?h2 ?h3
       case h1 => k_is
       case h2 => repeat (first | exact .nil | refine .cons (by constructor) ?_)
       case h3 => decide)
theorem l1cls : clsOk (hd1.heap_1 w.params) 158 l1names l1meths = true := by
  kernel_rfl
theorem ok1 {pp : Arguments} {bb : List PySem.Stmt} {sc : Scope} (X : (hd1.heap_1 w.params).In base) (T : Top p loose mean mg mb base) : (kx1 w p loose mean mg mb base (tkP pp bb sc)).Ok :=
  ⟨X, T, tk_keep, tk_at⟩
theorem gr1 {pp : Arguments} {bb : List PySem.Stmt} {sc : Scope} (X : (hd1.heap_1 w.params).In base) (T : Top p loose mean mg mb base)
    (hargs : ∀ nm q cl dc pm c ct v, bindArgs (fnX nm q pp bb sc cl .none .none dc pm none (.ref c) ct) ⟨[v], []⟩ = pure [(("limit" : PySem.Str), v)])
    (hok : cloOk sc.names takeVs = true) (hloc : sc.names.lookup ("limit" : PySem.Str) = some NameKind.local) (hco : sc.isCoroutine = false) (hgen : sc.isGenerator = false) (hkd : sc.kind = .function)
    (hder : ∀ Γ' n, GOk (kx1 w p loose mean mg mb base (tkP pp bb sc)).bare Γ' l1meths n → ∀ nm q cl dc pm c ct L f vars, Fo (kx1 w p loose mean mg mb base (tkP pp bb sc)).bare (cloEnv (fnX nm q pp bb sc cl .none .none dc pm none (.ref c) ct) L f) ⟨sc.names, takeVs⟩ vars →
      SSs (kx1 w p loose mean mg mb base (tkP pp bb sc)).bare n (cloEnv (fnX nm q pp bb sc cl .none .none dc pm none (.ref c) ct) L f) vars bb (wpSs Γ' takeB)) :
    ∀ n, GOk (kx1 w p loose mean mg mb base (tkP pp bb sc)) (P1.gx n) l1meths n := by
  have O : (kx1 w p loose mean mg mb base (tkP pp bb sc)).Ok := ok1 X T
  refine gok_all ⟨O, stat_ok O l1statOk, stat_still (l1statOk (w := w)), l1cls, fun i p h => ?_, take_ok (C := 158) rfl O l1cls hargs hok hloc hco hgen hkd hder, tk_keeper⟩ fun f te h => ?_
  · show ((l1meths[i]?).map (·.2)).getD 0 = p.2
    rw [h]; rfl
  have key : ∀ q ∈ l1tab, FnOk (kx1 w p loose mean mg mb base (tkP pp bb sc)) P1 l1meths q.1 := by
    repeat' (first | exact List.forall_mem_nil _ | refine List.forall_mem_cons.mpr ⟨?_, ?_⟩)
    · exact ok_init rfl
    · exact ok_need rfl
    · exact ok_write rfl
    · exact ok_law_by_order rfl
    · exact ok_law_by_hand rfl
    · exact ok_law_orders_due rfl
    · exact ok_law_hands_due rfl
    · exact ok_law_gaps_right rfl
    · exact cls_enter rfl rfl (by show makesIn (hd1.heap_1 w.params) _ = true; k_is) (by show findIn (hd1.heap_1 w.params) _ _ = _; k_is) (by show typeIn (hd1.heap_1 w.params) _ = _; k_is)
  exact key _ (lookup_mem h)
end
theorem pure1 : ∀ f F, f ∉ F → wpSs (P1.gx 6) b_law (fun fl _ _ => fl = .ret (.bool true)) (none :: some (.ref f) :: List.replicate (l1vs.length - 2) none) (sto0 f F) := by
  exact fun f F _ => law_pure (Sto.set_self _ _ _)
theorem fin1 {w : World} {p : Program} {loose : List PySem.Str} {mean : ExcName → Option Value} {mg mb : PySem.Str → Option Value} {base : Heap} {pp : Arguments} {bb : List PySem.Stmt} {sc : Scope} {s : Shared} {L : Addr} {m : PySem.Str → Option Value} {news : List (Addr × Obj)} {A : Around} {E : Value → Shared → Prop} {R : Flow → Shared → Prop}
    (F : Fr base L s.heap m) (N : News base L s.heap news) {f cp cc lp lc c ct0 : Addr} {nm q : PySem.Str} {dc pm ct : Value} {o2 o3 oc o7 : Obj} {us : List Value} {vc : Array Value} {ks : List Int} {t tq : Tok} {n n' : Nat}
    (m1 : (f, fnMade nm q pp bb sc [("place", cp), ("cells", cc)] dc pm c ct) ∈ news) (m2 : (cp, o2) ∈ news) (d2 : o2.data = .cell (some (.ref lp))) (m3 : (cc, o3) ∈ news) (d3 : o3.data = .cell (some (.ref lc)))
    (m4 : (lp, listOf #[.int 0 t] n) ∈ news) (m5 : (lc, listOf us.toArray n') ∈ news) (m6 : (c, oc) ∈ news) (d6 : oc.data = .fields vc) (d6' : vc[1]? = some (.str q tq)) (m7 : (ct0, o7) ∈ news) (d7 : o7.data = .cell (some (.ref f)))
    {ct1 : Addr} {o8 : Obj} (m8 : (ct1, o8) ∈ news) (d8 : o8.data = .cell none) (h8 : ct1 ∉ [f, cp, cc, lp, lc, c]) (h80 : ct1 ≠ ct0)
    {env : Env} {rest : List PySem.Stmt} (hkd' : env.scope.kind = .function) (hgl : env.globals = mainGlobals) (hbu : env.builtins = builtinsNs) (hL : env.locals = L) (hc : env.cells.lookup ("take" : PySem.Str) = some ct0) (hc1 : env.cells.lookup ("rows" : PySem.Str) = some ct1)
    (X : (hd1.heap_1 w.params).In base) (T : Top p loose mean mg mb base)
    (hI : IntsAre us ks) (h0 : 0 < ks.length) (h1 : ks.length ≤ 63) (hnd : [f, cp, cc, lp, lc, c].Nodup) (h7 : ct0 ∉ [f, cp, cc, lp, lc, c])
    (hok' : frameOk env.scope.names l1vs = true) (r : Room A 6)
    (hargs : ∀ nm q cl dc pm c ct v, bindArgs (fnX nm q pp bb sc cl .none .none dc pm none (.ref c) ct) ⟨[v], []⟩ = pure [(("limit" : PySem.Str), v)])
    (hok : cloOk sc.names takeVs = true) (hloc : sc.names.lookup ("limit" : PySem.Str) = some NameKind.local) (hco : sc.isCoroutine = false) (hgen : sc.isGenerator = false) (hkd : sc.kind = .function)
    (hder : ∀ Γ' n, GOk (kx1 w p loose mean mg mb base (tkP pp bb sc)).bare Γ' l1meths n → ∀ nm q cl dc pm c ct L f vars, Fo (kx1 w p loose mean mg mb base (tkP pp bb sc)).bare (cloEnv (fnX nm q pp bb sc cl .none .none dc pm none (.ref c) ct) L f) ⟨sc.names, takeVs⟩ vars →
      SSs (kx1 w p loose mean mg mb base (tkP pp bb sc)).bare n (cloEnv (fnX nm q pp bb sc cl .none .none dc pm none (.ref c) ct) L f) vars bb (wpSs Γ' takeB))
    (hS : GOk (kx1 w p loose mean mg mb base (tkP pp bb sc)) (P1.gx 6) l1meths 6 → ∀ vars, Fo (kx1 w p loose mean mg mb base (tkP pp bb sc)) env ⟨env.scope.names, l1vs⟩ vars → SSs (kx1 w p loose mean mg mb base (tkP pp bb sc)) 6 env vars rest (wpSs (P1.gx 6) b_law))
    (hR : ∀ s', (∃ h tk, s' = { s with heap := h, toks := tk }) → base.StaysIn s'.heap → (∀ b o, b ≠ L → b ∉ [f, cp, cc, lp, lc, c, ct0, ct1] → s.heap.get? b = some o → s'.heap.get? b = some o) → R (.ret (.bool true)) s') :
    wpAny (model PySem.Challenge.pw_pb0237_02 w) A (execs rest env) R E s := by
  have Gr := gr1 X T hargs hok hloc hco hgen hkd hder
  refine law_close (κ := kx1 w p loose mean mg mb base (tkP pp bb sc)) (vs := l1vs) (pb := b_law) Gr rfl F N m1 m2 d2 m3 d3 m4 m5 hI h0 h1 hnd m6 d6 d6' m7 d7 h7 m8 d8 h8 h80 hkd' hgl hbu hL hc hc1 hok' (fun i n e => ?_) rfl (by decide) (hS (Gr 6)) pure1 r hR
  match i, e with
  | 1, e => cases e; exact .inl ⟨rfl, rfl⟩
  | 0, e => cases e
  | 2, e => cases e; exact .inr ⟨rfl, rfl⟩
  | 3, e => cases e
  | 4, e => cases e
  | 5, e => cases e
  | 6, e => cases e
  | 7, e => cases e
  | 8, e => cases e
  | 9, e => cases e
  | 10, e => cases e
  | 11, e => cases e
  | 12, e => cases e
  | 13, e => cases e
  | i + 14, e => simp at e
noncomputable def Stop (p : Prop) : Prop := p
theorem stop_here {M : Model} {A : Around} {p1 p2 p3 pos : Pos} {args cs : List PySem.Expr} {kws : List Keyword} {ops : List CmpOp} {b o : List Stmt} {rest : List Stmt} {env : Env} {Q : Flow → Shared → Prop} {E : Value → Shared → Prop} {s : Shared} (h : Stop (wpAny M A (execs (.If (.Compare (.Call (.Name "_law_by_order" p1) args kws p2) ops cs p3) b o pos :: rest) env) Q E s)) :
  wpAny M A (execs (.If (.Compare (.Call (.Name "_law_by_order" p1) args kws p2) ops cs p3) b o pos :: rest) env) Q E s := h
end Mine
open Mine
theorem PySem.Challenge.cw_pb0237_02_holds : PySem.Challenge.rw_pb0237_02.Holds :=
  hd1 (by
  k_go0
  all_goals try k_fold
  repeat' (first | (with_reducible refine stop_here ?_) | (k_unfold; (try dsimp only)) | (k_end; wrow_close) | walk1 | (dsimp only; walk1) | (leave1; walk_say "STEP leave1"; try dsimp only) | fail "no step")
  all_goals unfold Stop
  all_goals (
    refine' fin1 (by assumption) (by assumption) ?m1 ?m2 ?d2 ?m3 ?d3 ?m4 ?m5 ?m6 ?d6 ?d6' ?m7 ?d7 ?m8 ?d8 ?h8 ?h80 ?kd ?gl ?bu ?L ?c ?c1 (by assumption) (by assumption) ?hI ?h0 ?h1 ?hnd ?h7 ?ok ?r ?ta ?tb ?tc ?td ?te ?tf ?tder ?S ?R
    case m1 => exact .head _
    case c => rfl
    case c1 => rfl
    case m2 => repeat (first | exact .head _ | refine .tail _ ?_)
    case d2 => assumption
    case m3 => repeat (first | exact .head _ | refine .tail _ ?_)
    case d3 => assumption
    case m4 => repeat (first | exact .head _ | refine .tail _ ?_)
    case m5 => repeat (first | exact .head _ | refine .tail _ ?_)
    case m6 => repeat (first | exact .head _ | refine .tail _ ?_)
    case d6 => assumption
    case d6' => assumption
    case m7 => repeat (first | exact .head _ | refine .tail _ ?_)
    case d7 => assumption
    case m8 => repeat (first | exact .head _ | refine .tail _ ?_)
    case d8 => first | rfl | assumption
    case h8 => exact nd7 (by omega) (by omega) (by omega) (by omega) (by omega) (by omega)
    case h80 => exact Nat.ne_of_gt (by omega)
    case kd => rfl
    case gl => rfl
    case bu => rfl
    case L => rfl
    case hI => first | assumption | exact .cons _ _ .nil
    case h0 => first | decide | exact List.length_pos_iff.mpr (by simp_all)
    case h1 => first | decide | omega
    case hnd => exact nd6 (by omega) (by omega) (by omega) (by omega) (by omega)
    case h7 => exact nd7 (by omega) (by omega) (by omega) (by omega) (by omega) (by omega)
    case ok => kernel_rfl
    case r => exact ⟨rfl, Nat.le_of_ble_eq_true rfl, Nat.le_of_ble_eq_true rfl⟩
    case ta => exact fun _ _ _ _ _ _ _ _ => rfl
    case tb => decide +kernel
    case tc => rfl
    case td => rfl
    case te => rfl
    case tf => rfl
    case tder => exact fun Γ' n G nm q cl dc pm c ct L f vars fo => (sss_cons (ss_name G fo (by rfl) (by rfl) (se_sub G (fun _ _ => rfl) (se_var fo.eo (by rfl) (by rfl)) se_int)) (sss_cons (ss_subl G (by rfl) (se_add G (se_var fo.eo (by rfl) (by rfl)) se_int) (se_var fo.eo (by rfl) (by rfl)) se_int) (sss_cons (ss_name G fo (by rfl) (by rfl) (se_ar (by rfl) (se_var fo.eo (by rfl) (by rfl)) (se_bi (f := .len) G fo.eo (by rfl) hb_len (by rfl) (se_var fo.eo (by rfl) (by rfl))))) (sss_cons (ss_ret (se_ar (by rfl) (se_add G (se_ar (by rfl) (se_sub G (fun _ _ => rfl) (se_var fo.eo (by rfl) (by rfl)) (se_ar (by rfl) (se_var fo.eo (by rfl) (by rfl)) (se_bi (f := .len) G fo.eo (by rfl) hb_len (by rfl) (se_var fo.eo (by rfl) (by rfl))))) (se_ar (by rfl) se_int (se_var fo.eo (by rfl) (by rfl)))) (se_ar (by rfl) (se_var fo.eo (by rfl) (by rfl)) (se_add G (se_ar (by rfl) se_int (se_var fo.eo (by rfl) (by rfl))) se_int))) (se_var fo.eo (by rfl) (by rfl)))) sss_nil))))
    case S => exact fun G vars fo => (sss_cons (ss_if (sc_cmp G (by rfl) (se_fn G fo.eo (by rfl) hg__law_by_order (by rfl) hk__law_by_order (by rfl) (ses_cons (star_cons (by rfl) _) (se_list G (by decide) (ses_cons (star_cons (by rfl) _) se_bytes (ses_cons (star_cons (by rfl) _) se_bytes (ses_cons (star_cons (by rfl) _) se_bytes ses_nil)))) (ses_cons (star_cons (by rfl) _) se_int (ses_cons (star_cons (by rfl) _) se_int ses_nil)))) (se_tup G (by decide) (ses_cons (star_cons (by rfl) _) (se_dict G (by rfl) (by rfl) (by simp) (by decide) (sds_cons se_int se_bytes (sds_cons se_int se_bytes sds_nil))) (ses_cons (star_cons (by rfl) _) (se_list G (by decide) (ses_cons (star_cons (by rfl) _) (se_tup G (by decide) (ses_cons (star_cons (by rfl) _) se_str (ses_cons (star_cons (by rfl) _) se_int ses_nil))) (ses_cons (star_cons (by rfl) _) (se_tup G (by decide) (ses_cons (star_cons (by rfl) _) se_str (ses_cons (star_cons (by rfl) _) se_int ses_nil))) (ses_cons (star_cons (by rfl) _) (se_tup G (by decide) (ses_cons (star_cons (by rfl) _) se_str (ses_cons (star_cons (by rfl) _) se_int ses_nil))) ses_nil)))) ses_nil)))) (sss_cons (ss_ret se_bool) sss_nil) sss_nil) (sss_cons (ss_if (sc_bool (sa_or (sc_cmp G (by rfl) (se_fn G fo.eo (by rfl) hg__law_by_hand (by rfl) hk__law_by_hand (by rfl) (ses_cons (star_cons (by rfl) _) (se_list G (by decide) (ses_cons (star_cons (by rfl) _) se_bytes (ses_cons (star_cons (by rfl) _) se_bytes (ses_cons (star_cons (by rfl) _) se_bytes ses_nil)))) (ses_cons (star_cons (by rfl) _) (se_list G (by decide) (ses_cons (star_cons (by rfl) _) se_int (ses_cons (star_cons (by rfl) _) se_int (ses_cons (star_cons (by rfl) _) se_int (ses_cons (star_cons (by rfl) _) se_int ses_nil))))) (ses_cons (star_cons (by rfl) _) se_int ses_nil)))) (se_tup G (by decide) (ses_cons (star_cons (by rfl) _) (se_dict G (by rfl) (by rfl) (by simp) (by decide) (sds_cons se_int se_bytes (sds_cons se_int se_bytes sds_nil))) (ses_cons (star_cons (by rfl) _) (se_list G (by decide) (ses_cons (star_cons (by rfl) _) se_str (ses_cons (star_cons (by rfl) _) se_str (ses_cons (star_cons (by rfl) _) se_str (ses_cons (star_cons (by rfl) _) se_str ses_nil))))) ses_nil)))) (sa_or_one (sc_not (sc_val G (fun _ => rfl) (se_fn G fo.eo (by rfl) hg__law_gaps_right (by rfl) hk__law_gaps_right (by rfl) (ses_cons (star_cons (by rfl) _) (se_list G (by decide) (ses_cons (star_cons (by rfl) _) se_int (ses_cons (star_cons (by rfl) _) se_int ses_nil))) (ses_cons (star_cons (by rfl) _) se_bytes ses_nil)))))))) (sss_cons (ss_ret se_bool) sss_nil) sss_nil) (sss_cons (ss_name G fo (by rfl) (by rfl) (se_comp G fo (by rfl) (by rfl) (fun _ => rfl) (se_bi (f := .range) G fo.eo (by rfl) hb_range (by rfl) (se_take G (by decide) fo (by rfl) (by rfl) (by rfl) se_int)) (fun C fo1 => (se_bi (f := .bytes) G fo1.eo (by rfl) hb_bytes (by rfl) (se_comp G fo1 (by rfl) (by rfl) (fun _ => rfl) (se_bi (f := .range) G fo1.eo (by rfl) hb_range (by rfl) (se_take G (by decide) fo1 (by rfl) (by rfl) (by rfl) se_int)) (fun C fo2 => (se_take G (by decide) fo2 (by rfl) (by rfl) (by rfl) se_int)) (fun C fo2 => st_nil)))) (fun C fo1 => st_nil))) (sss_cons (ss_swap G fo (ns := ["many", "most"]) (by rfl) (by rfl) (by rfl) (by rfl) (se_tup G (by decide) (ses_cons (star_cons (by rfl) _) (se_take G (by decide) fo (by rfl) (by rfl) (by rfl) (se_add G (se_bi (f := .len) G fo.eo (by rfl) hb_len (by rfl) (se_var fo.eo (by rfl) (by rfl))) se_int)) (ses_cons (star_cons (by rfl) _) (se_sub G (fun _ _ => rfl) (se_tup G (by decide) (ses_cons (star_cons (by rfl) _) se_int (ses_cons (star_cons (by rfl) _) se_int (ses_cons (star_cons (by rfl) _) se_int (ses_cons (star_cons (by rfl) _) se_int ses_nil))))) (se_take G (by decide) fo (by rfl) (by rfl) (by rfl) se_int)) ses_nil)))) (sss_cons (ss_tup (by rfl) (by rfl) (se_fn G fo.eo (by rfl) hg__law_by_order (by rfl) hk__law_by_order (by rfl) (ses_cons (star_cons (by rfl) _) (se_var fo.eo (by rfl) (by rfl)) (ses_cons (star_cons (by rfl) _) (se_var fo.eo (by rfl) (by rfl)) (ses_cons (star_cons (by rfl) _) (se_var fo.eo (by rfl) (by rfl)) ses_nil)))) (tt_tup G (tts_cons (by rfl) (tt_var G fo (by rfl)) (tts_cons (by rfl) (tt_var G fo (by rfl)) tts_nil)))) (sss_cons (ss_tup (by rfl) (by rfl) (se_fn G fo.eo (by rfl) hg__law_orders_due (by rfl) hk__law_orders_due (by rfl) (ses_cons (star_cons (by rfl) _) (se_var fo.eo (by rfl) (by rfl)) (ses_cons (star_cons (by rfl) _) (se_var fo.eo (by rfl) (by rfl)) (ses_cons (star_cons (by rfl) _) (se_var fo.eo (by rfl) (by rfl)) ses_nil)))) (tt_tup G (tts_cons (by rfl) (tt_var G fo (by rfl)) (tts_cons (by rfl) (tt_var G fo (by rfl)) tts_nil)))) (sss_cons (ss_if (sc_bool (sa_or (sc_cmp G (by rfl) (se_var fo.eo (by rfl) (by rfl)) (se_var fo.eo (by rfl) (by rfl))) (sa_or_one (sc_cmp G (by rfl) (se_var fo.eo (by rfl) (by rfl)) (se_bi (f := .dict) G fo.eo (by rfl) hb_dict (by rfl) (se_comp G fo (by rfl) (by rfl) (fun _ => rfl) (se_bi (f := .range) G fo.eo (by rfl) hb_range (by rfl) (se_var fo.eo (by rfl) (by rfl))) (fun C fo3 => (se_tup G (by decide) (ses_cons (star_cons (by rfl) _) (se_add G (se_var fo3.eo (by rfl) (by rfl)) se_int) (ses_cons (star_cons (by rfl) _) (se_sub G (fun _ _ => rfl) (se_var fo3.eo (by rfl) (by rfl)) (se_var fo3.eo (by rfl) (by rfl))) ses_nil)))) (fun C fo3 => st_nil))))))) (sss_cons (ss_ret se_bool) sss_nil) sss_nil) (sss_cons (ss_swap G fo (ns := ["order", "left"]) (by rfl) (by rfl) (by rfl) (by rfl) (se_tup G (by decide) (ses_cons (star_cons (by rfl) _) (se_list G (by decide) ses_nil) (ses_cons (star_cons (by rfl) _) (se_bi (f := .list) G fo.eo (by rfl) hb_list (by rfl) (se_bi (f := .range) G fo.eo (by rfl) hb_range (by rfl) (se_bi (f := .len) G fo.eo (by rfl) hb_len (by rfl) (se_var fo.eo (by rfl) (by rfl))))) ses_nil)))) (sss_cons (ss_while (sc_cmp G (by rfl) (se_var fo.eo (by rfl) (by rfl)) (se_list G (by decide) ses_nil)) (sss_cons (ss_expr fo (by rfl) (se_bm (f := .append) G (by rfl) (by rfl) (by rfl) (by rfl) (se_var fo.eo (by rfl) (by rfl)) (ses_cons (star_cons (by rfl) _) (se_bm (f := .popL) G (by rfl) (by rfl) (by rfl) (by rfl) (se_var fo.eo (by rfl) (by rfl)) (ses_cons (star_cons (by rfl) _) (se_take G (by decide) fo (by rfl) (by rfl) (by rfl) (se_bi (f := .len) G fo.eo (by rfl) hb_len (by rfl) (se_var fo.eo (by rfl) (by rfl)))) ses_nil)) ses_nil))) (sss_cons (ss_if (sc_cmp G (by rfl) (se_take G (by decide) fo (by rfl) (by rfl) (by rfl) se_int) se_int) (sss_cons (ss_expr fo (by rfl) (se_bm (f := .append) G (by rfl) (by rfl) (by rfl) (by rfl) (se_var fo.eo (by rfl) (by rfl)) (ses_cons (star_cons (by rfl) _) (se_sub G (fun _ _ => rfl) (se_var fo.eo (by rfl) (by rfl)) (se_take G (by decide) fo (by rfl) (by rfl) (by rfl) (se_bi (f := .len) G fo.eo (by rfl) hb_len (by rfl) (se_var fo.eo (by rfl) (by rfl))))) ses_nil))) sss_nil) sss_nil) sss_nil))) (sss_cons (ss_tup (by rfl) (by rfl) (se_fn G fo.eo (by rfl) hg__law_by_hand (by rfl) hk__law_by_hand (by rfl) (ses_cons (star_cons (by rfl) _) (se_var fo.eo (by rfl) (by rfl)) (ses_cons (star_cons (by rfl) _) (se_var fo.eo (by rfl) (by rfl)) (ses_cons (star_cons (by rfl) _) (se_var fo.eo (by rfl) (by rfl)) ses_nil)))) (tt_tup G (tts_cons (by rfl) (tt_var G fo (by rfl)) (tts_cons (by rfl) (tt_var G fo (by rfl)) tts_nil)))) (sss_cons (ss_tup (by rfl) (by rfl) (se_fn G fo.eo (by rfl) hg__law_hands_due (by rfl) hk__law_hands_due (by rfl) (ses_cons (star_cons (by rfl) _) (se_var fo.eo (by rfl) (by rfl)) (ses_cons (star_cons (by rfl) _) (se_var fo.eo (by rfl) (by rfl)) (ses_cons (star_cons (by rfl) _) (se_var fo.eo (by rfl) (by rfl)) ses_nil)))) (tt_tup G (tts_cons (by rfl) (tt_var G fo (by rfl)) (tts_cons (by rfl) (tt_var G fo (by rfl)) tts_nil)))) (sss_cons (ss_if (sc_bool (sa_or (sc_cmp G (by rfl) (se_var fo.eo (by rfl) (by rfl)) (se_var fo.eo (by rfl) (by rfl))) (sa_or (sc_cmp G (by rfl) (se_var fo.eo (by rfl) (by rfl)) (se_var fo.eo (by rfl) (by rfl))) (sa_or_one (sc_cmp G (by rfl) (se_bi (f := .sorted) G fo.eo (by rfl) hb_sorted (by rfl) (se_var fo.eo (by rfl) (by rfl))) (se_bi (f := .sorted) G fo.eo (by rfl) hb_sorted (by rfl) (se_comp G fo (by rfl) (by rfl) (fun _ => rfl) (se_var fo.eo (by rfl) (by rfl)) (fun C fo4 => (se_add G (se_var fo4.eo (by rfl) (by rfl)) se_int)) (fun C fo4 => st_nil)))))))) (sss_cons (ss_ret se_bool) sss_nil) sss_nil) (sss_cons (ss_ret (se_fn G fo.eo (by rfl) hg__law_gaps_right (by rfl) hk__law_gaps_right (by rfl) (ses_cons (star_cons (by rfl) _) (se_comp G fo (by rfl) (by rfl) (fun _ => rfl) (se_bi (f := .range) G fo.eo (by rfl) hb_range (by rfl) (se_take G (by decide) fo (by rfl) (by rfl) (by rfl) se_int)) (fun C fo5 => (se_add G se_int (se_take G (by decide) fo5 (by rfl) (by rfl) (by rfl) se_int))) (fun C fo5 => st_nil)) (ses_cons (star_cons (by rfl) _) (se_bi (f := .bytes) G fo.eo (by rfl) hb_bytes (by rfl) (se_list G (by decide) (ses_cons (star_cons (by rfl) _) (se_take G (by decide) fo (by rfl) (by rfl) (by rfl) se_int) ses_nil))) ses_nil)))) sss_nil)))))))))))))
    case R =>
      rintro s' ⟨h', tk', rfl⟩ st kp
      refine ⟨⟨.inl ⟨_, _, [], rfl, raisesW_false (by wrow_none_raised), .bool true, (by wrow_post), unshared_nil⟩, st, rfl, (by assumption)⟩, ⟨⟨_, kp 164 _ (Nat.ne_of_lt (by omega)) (nd9 (by omega) (by omega) (by omega) (by omega) (by omega) (by omega) (by omega) (by omega)) ((by assumption : News _ _ _ _) (164, tabObj _) (by repeat (first | exact .head _ | refine .tail _ ?_))).1⟩, trivial⟩⟩))
