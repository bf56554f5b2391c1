import PyProof.Rows.All
import PyProof.StrWalks
import PyProof.DictDisplay
import PyProof.NeData
import PyProof.WalksMore
import Open.Line
import OpenK.KLine
import OpenK.KRaise
import KE.KUnpack
import KE.KItem
import KE.KPop
import KE.KListMore
import KE.KItemAt
import Wide.FinOn
import OpenK.AllK
import Wide.All
import Lean
import PySem.Challenge.RW_nz0110_01
set_option Elab.async false
set_option genSizeOf false
section
set_option maxRecDepth 100000
set_option autoImplicit false
set_option tactic.hygienic false
namespace Mine
open PySem PySem.W PySem.Calls PyProof.Rows

/-- places of the abstract heap: the core, what came before, what is new -/
inductive Rf where
  | c (i : Nat)
  | d (i : Nat)
  | n (i : Nat)
structure T3 (α : Type) where
  c : List α
  d : List α
  n : List α
noncomputable def T3.get {α : Type} (t : T3 α) : Rf → Option α
  | .c i => t.c[i]?
  | .d i => t.d[i]?
  | .n i => t.n[i]?
noncomputable def T3.set {α : Type} (t : T3 α) (r : Rf) (x : α) : T3 α := match r with
  | .c i => ⟨t.c.set i x, t.d, t.n⟩
  | .d i => ⟨t.c, t.d.set i x, t.n⟩
  | .n i => ⟨t.c, t.d, t.n.set i x⟩
inductive Rg where
  | c
  | d
  | n
noncomputable def Rg.rf : Rg → Nat → Rf
  | .c, i => .c i
  | .d, i => .d i
  | .n, i => .n i
noncomputable def T3.push {α : Type} (t : T3 α) (q : Rg) (x : α) : T3 α := match q with
  | .c => ⟨t.c ++ [x], t.d, t.n⟩
  | .d => ⟨t.c, t.d ++ [x], t.n⟩
  | .n => ⟨t.c, t.d, t.n ++ [x]⟩
/-- the place that the next push takes -/
noncomputable def T3.nx {α : Type} (t : T3 α) : Rg → Rf
  | .c => .c t.c.length
  | .d => .d t.d.length
  | .n => .n t.n.length

/-- abstract values -/
inductive GV where
  | none
  | bool (b : Bool)
  | int (i : Int)
  | str (s : Str)
  | tup (xs : List GV)
  | obj (r : Rf)
  | fn (a : Nat)
  | cls (a : Nat)
  | bi (id : String)
  | ty (n : String)

/-- abstract objects: what the heap holds and a call may change -/
inductive AO where
  | list (xs : List GV)
  | inst (C : Nat) (fs : List (Str × GV))
  | dict (ks : List (Str × GV))
noncomputable abbrev AH := T3 AO

noncomputable abbrev tupOf (vs : List Value) : Obj := { cls := .type "tuple", data := .seq vs.toArray }
noncomputable def KTup (K : Frag) (a : Addr) (vs : List Value) : Prop := ∃ dd sl n, K.lookup a = some ⟨.type "tuple", dd, .seq vs.toArray n, sl⟩
noncomputable abbrev Led := List (Addr × Obj)
noncomputable abbrev Phi := T3 (Addr × Addr)

mutual
noncomputable def V (K : Frag) (φ : Phi) (N : Led) : GV → Value → Prop
  | .none, v => v = .none
  | .bool b, v => v = .bool b
  | .int i, v => ∃ t, v = .int i t
  | .str s, v => ∃ t, v = .str s t
  | .tup xs, v => ∃ a vs, v = .ref a ∧ ((a, tupOf vs) ∈ N ∨ KTup K a vs) ∧ Vs K φ N xs vs
  | .obj r, v => ∃ p, φ.get r = some p ∧ v = .ref p.1
  | .fn a, v => v = .ref a
  | .cls a, v => v = .ref a
  | .bi id, v => v = .builtin id
  | .ty n, v => v = .type n
noncomputable def Vs (K : Frag) (φ : Phi) (N : Led) : List GV → List Value → Prop
  | [], vs => vs = []
  | x :: xs, vs => ∃ v r, vs = v :: r ∧ V K φ N x v ∧ Vs K φ N xs r
end

/-- the entries of a dict (a made object's, or one with text keys) -/
noncomputable def Es (K : Frag) (P : Params) (φ : Phi) (N : Led) : List (Str × GV) → List DictEntry → Prop
  | [], es => es = []
  | x :: xs, es => ∃ e r, es = e :: r ∧ (∃ t, e.key = .str x.1 t) ∧ e.hash = PyData.keyHash P x.1 ∧ V K φ N x.2 e.val ∧ Es K P φ N xs r

noncomputable def OR (K : Frag) (P : Params) (φ : Phi) (N : Led) : AO → Addr × Addr → Prop
  | .list xs, p => ∃ vs n, (p.1, listOf vs.toArray n) ∈ N ∧ Vs K φ N xs vs
  | .inst C fs, p => ∃ es n, (p.1, instObj C p.2) ∈ N ∧ (p.2, dictOf es n) ∈ N ∧ Es K P φ N fs es
  | .dict ks, p => ∃ es n, (p.1, dictOf es n) ∈ N ∧ Es K P φ N ks es

noncomputable def footO : AO → Addr × Addr → List Addr
  | .inst _ _, p => [p.1, p.2]
  | _, p => [p.1]
noncomputable def footL : List (Addr × Addr) → List AO → List Addr
  | p :: φ, o :: ah => footO o p ++ footL φ ah
  | _, _ => []
noncomputable def foot (φ : Phi) (ah : AH) : List Addr := footL φ.c ah.c ++ (footL φ.d ah.d ++ footL φ.n ah.n)

/-- a list is not long -/
noncomputable def szO : AO → Prop
  | .list xs => xs.length ≤ 1000000
  | _ => True
/-- the ledger bears the abstract heap -/
structure HR (K : Frag) (P : Params) (φ : Phi) (ah : AH) (N : Led) : Prop where
  lc : φ.c.length = ah.c.length
  ld : φ.d.length = ah.d.length
  ln : φ.n.length = ah.n.length
  nd : (N.map (·.1)).Nodup
  ft : (foot φ ah).Nodup
  ob : ∀ (r : Rf) (o : AO) (p : Addr × Addr), ah.get r = some o → φ.get r = some p → OR K P φ N o p
  sz : ∀ (r : Rf) (o : AO), ah.get r = some o → szO o

/-- places stay -/
structure PLe (φ φ' : Phi) : Prop where
  c : φ.c <+: φ'.c
  d : φ.d <+: φ'.d
  n : φ.n <+: φ'.n
/-- what a step keeps -/
structure Ext (φ : Phi) (ah : AH) (N : Led) (φ' : Phi) (ah' : AH) (N' : Led) : Prop where
  pre : PLe φ φ'
  keep : ∀ p ∈ N, p.1 ∉ foot φ ah → p ∈ N'
  new : ∀ a ∈ foot φ' ah', a ∈ foot φ ah ∨ a ∉ N.map (·.1)
  old : ∀ a ∈ N.map (·.1), a ∈ N'.map (·.1)

theorem eq_of_nodup {N : Led} (nd : (N.map (·.1)).Nodup) : ∀ {a : Addr} {o o' : Obj}, (a, o) ∈ N → (a, o') ∈ N → o = o' := by
  induction N with
  | nil => intro a o o' h; cases h
  | cons p r ih =>
    intro a o o' h h'
    rw [List.map_cons, List.nodup_cons] at nd
    rcases List.mem_cons.mp h with e | h
    · rcases List.mem_cons.mp h' with e' | h'
      · rw [← e] at e'; exact (Prod.mk.inj e').2.symm
      · exfalso; apply nd.1; rw [← e]; exact List.mem_map.mpr ⟨_, h', rfl⟩
    · rcases List.mem_cons.mp h' with e' | h'
      · exfalso; apply nd.1; rw [← e']; exact List.mem_map.mpr ⟨_, h, rfl⟩
      · exact ih nd.2 h h'

theorem footL_mem : ∀ {φ : List (Addr × Addr)} {ah : List AO} {a : Addr}, a ∈ footL φ ah → ∃ (i : Nat) (o : AO) (p : Addr × Addr), ah[i]? = some o ∧ φ[i]? = some p ∧ a ∈ footO o p
  | [], [], _, h => by cases h
  | [], _ :: _, _, h => by cases h
  | _ :: _, [], _, h => by cases h
  | p :: φ, o :: ah, a, h => by
    rcases List.mem_append.mp h with h | h
    · exact ⟨0, o, p, rfl, rfl, h⟩
    · obtain ⟨i, o', p', a1, a2, a3⟩ := footL_mem h
      exact ⟨i + 1, o', p', by simpa using a1, by simpa using a2, a3⟩
theorem mem_footL {φ : List (Addr × Addr)} {ah : List AO} {i : Nat} {o : AO} {p : Addr × Addr} {a : Addr} (h1 : ah[i]? = some o) (h2 : φ[i]? = some p) (h : a ∈ footO o p) : a ∈ footL φ ah := by
  induction φ generalizing ah i with
  | nil => simp at h2
  | cons q φ ih =>
    cases ah with
    | nil => simp at h1
    | cons o' ah =>
      cases i with
      | zero =>
        simp at h1 h2; subst h1 h2
        exact List.mem_append_left _ h
      | succ i =>
        exact List.mem_append_right _ (ih (by simpa using h1) (by simpa using h2))
theorem foot_mem {φ : Phi} {ah : AH} {a : Addr} (h : a ∈ foot φ ah) : ∃ (r : Rf) (o : AO) (p : Addr × Addr), ah.get r = some o ∧ φ.get r = some p ∧ a ∈ footO o p := by
  rcases List.mem_append.mp h with h | h
  · obtain ⟨i, o, p, a1, a2, a3⟩ := footL_mem h; exact ⟨.c i, o, p, a1, a2, a3⟩
  · rcases List.mem_append.mp h with h | h
    · obtain ⟨i, o, p, a1, a2, a3⟩ := footL_mem h; exact ⟨.d i, o, p, a1, a2, a3⟩
    · obtain ⟨i, o, p, a1, a2, a3⟩ := footL_mem h; exact ⟨.n i, o, p, a1, a2, a3⟩
theorem mem_foot {φ : Phi} {ah : AH} {r : Rf} {o : AO} {p : Addr × Addr} {a : Addr} (h1 : ah.get r = some o) (h2 : φ.get r = some p) (h : a ∈ footO o p) : a ∈ foot φ ah := by
  cases r with
  | c i => exact List.mem_append_left _ (mem_footL h1 h2 h)
  | d i => exact List.mem_append_right _ (List.mem_append_left _ (mem_footL h1 h2 h))
  | n i => exact List.mem_append_right _ (List.mem_append_right _ (mem_footL h1 h2 h))

/-- a tuple's place is no changing object's place -/
theorem HR.tup_off {K : Frag} {P : Params} {φ : Phi} {ah : AH} {N : Led} (H : HR K P φ ah N) {a : Addr} {vs : List Value} (h : (a, tupOf vs) ∈ N) : a ∉ foot φ ah := by
  intro hf
  obtain ⟨i, o, p, h1, h2, h3⟩ := foot_mem hf
  have O := H.ob i o p h1 h2
  cases o with
  | list xs =>
    obtain ⟨ws, n, hm, _⟩ := O
    rw [List.mem_singleton.mp h3] at h
    have := congrArg Obj.cls (eq_of_nodup H.nd h hm)
    exact absurd (Value.type.inj this) (by decide)
  | dict ks =>
    obtain ⟨es, n, hm, _⟩ := O
    rw [List.mem_singleton.mp h3] at h
    have := congrArg Obj.cls (eq_of_nodup H.nd h hm)
    exact absurd (Value.type.inj this) (by decide)
  | inst C fs =>
    obtain ⟨es, n, hm, hd, _⟩ := O
    rcases List.mem_cons.mp h3 with e | e
    · rw [e] at h
      have := congrArg Obj.cls (eq_of_nodup H.nd h hm)
      exact Value.noConfusion this
    · rw [List.mem_singleton.mp e] at h
      have := congrArg Obj.cls (eq_of_nodup H.nd h hd)
      exact absurd (Value.type.inj this) (by decide)

/-- values stay: what V says only leans on tuples and on places -/
structure Stay (φ : Phi) (N : Led) (φ' : Phi) (N' : Led) : Prop where
  pre : PLe φ φ'
  tup : ∀ a vs, (a, tupOf vs) ∈ N → (a, tupOf vs) ∈ N'
theorem prefix_get {α : Type} {l l' : List α} (h : l <+: l') {i : Nat} {x : α} (e : l[i]? = some x) : l'[i]? = some x := by
  obtain ⟨t, rfl⟩ := h
  rw [List.getElem?_append_left (by
    rcases Nat.lt_or_ge i l.length with q | q
    · exact q
    · rw [List.getElem?_eq_none q] at e; cases e)]
  exact e
theorem PLe.get {φ φ' : Phi} (h : PLe φ φ') {r : Rf} {p : Addr × Addr} (e : φ.get r = some p) : φ'.get r = some p := by
  cases r with
  | c i => exact prefix_get h.c e
  | d i => exact prefix_get h.d e
  | n i => exact prefix_get h.n e
theorem PLe.refl (φ : Phi) : PLe φ φ := ⟨List.prefix_rfl, List.prefix_rfl, List.prefix_rfl⟩
theorem PLe.trans {φ φ' φ'' : Phi} (h : PLe φ φ') (k : PLe φ' φ'') : PLe φ φ'' := ⟨h.c.trans k.c, h.d.trans k.d, h.n.trans k.n⟩
mutual
theorem V.stay {K : Frag} {φ φ' : Phi} {N N' : Led} (S : Stay φ N φ' N') : ∀ (g : GV) (v : Value), V K φ N g v → V K φ' N' g v
  | .none, _, h | .bool _, _, h | .int _, _, h | .str _, _, h | .fn _, _, h | .cls _, _, h | .bi _, _, h | .ty _, _, h => by
    simp only [V] at h ⊢; exact h
  | .obj r, v, h => by
    simp only [V] at h ⊢
    obtain ⟨p, a, b⟩ := h
    exact ⟨p, S.pre.get a, b⟩
  | .tup xs, v, h => by
    simp only [V] at h ⊢
    obtain ⟨a, vs, e, m, r⟩ := h
    exact ⟨a, vs, e, m.imp (S.tup a vs) id, Vs.stay S xs vs r⟩
theorem Vs.stay {K : Frag} {φ φ' : Phi} {N N' : Led} (S : Stay φ N φ' N') : ∀ (g : List GV) (v : List Value), Vs K φ N g v → Vs K φ' N' g v
  | [], v, h => by simp only [Vs] at h ⊢; exact h
  | x :: xs, v, h => by
    simp only [Vs] at h ⊢
    obtain ⟨a, r, e, h1, h2⟩ := h
    exact ⟨a, r, e, V.stay S x a h1, Vs.stay S xs r h2⟩
end
theorem Es.stay {K : Frag} {P : Params} {φ φ' : Phi} {N N' : Led} (S : Stay φ N φ' N') : ∀ (g : List (Str × GV)) (v : List DictEntry), Es K P φ N g v → Es K P φ' N' g v
  | [], v, h => by simp only [Es] at h ⊢; exact h
  | x :: xs, v, h => by
    simp only [Es] at h ⊢
    obtain ⟨a, r, e, h1, h2, h3, h4⟩ := h
    exact ⟨a, r, e, h1, h2, V.stay S _ _ h3, Es.stay S xs r h4⟩

theorem Ext.stay {K : Frag} {P : Params} {φ φ' : Phi} {ah ah' : AH} {N N' : Led} (H : HR K P φ ah N) (X : Ext φ ah N φ' ah' N') : Stay φ N φ' N' :=
  ⟨X.pre, fun _ _ h => X.keep _ h (H.tup_off h)⟩
theorem Ext.refl (φ : Phi) (ah : AH) (N : Led) : Ext φ ah N φ ah N := ⟨PLe.refl _, fun _ h _ => h, fun _ h => .inl h, fun _ h => h⟩
theorem Ext.trans {φ φ' φ'' : Phi} {ah ah' ah'' : AH} {N N' N'' : Led} (X : Ext φ ah N φ' ah' N') (Y : Ext φ' ah' N' φ'' ah'' N'') : Ext φ ah N φ'' ah'' N'' where
  pre := X.pre.trans Y.pre
  keep p h q := Y.keep p (X.keep p h q) fun z => (X.new _ z).elim q fun z => z (List.mem_map.mpr ⟨p, h, rfl⟩)
  new a h := (Y.new a h).elim (fun z => X.new a z) fun z => .inr fun q => z (X.old a q)
  old a h := Y.old a (X.old a h)

theorem Vs.length {K : Frag} {φ : Phi} {N : Led} : ∀ {g : List GV} {v : List Value}, Vs K φ N g v → v.length = g.length
  | [], _, h => by simp only [Vs] at h; rw [h]; rfl
  | x :: xs, _, h => by
    simp only [Vs] at h
    obtain ⟨a, r, e, _, h2⟩ := h
    rw [e, List.length_cons, List.length_cons, Vs.length h2]
theorem Vs.get {K : Frag} {φ : Phi} {N : Led} : ∀ {g : List GV} {v : List Value} {i : Nat} {x : GV}, Vs K φ N g v → g[i]? = some x → ∃ y, v[i]? = some y ∧ V K φ N x y
  | [], _, _, _, _, e => by simp at e
  | y :: ys, _, i, x, h, e => by
    simp only [Vs] at h
    obtain ⟨a, r, rfl, h1, h2⟩ := h
    cases i with
    | zero => simp at e; subst e; exact ⟨a, rfl, h1⟩
    | succ i => simpa using Vs.get h2 (by simpa using e)
theorem Vs.append {K : Frag} {φ : Phi} {N : Led} : ∀ {g g' : List GV} {v v' : List Value}, Vs K φ N g v → Vs K φ N g' v' → Vs K φ N (g ++ g') (v ++ v')
  | [], _, _, _, h, h' => by simp only [Vs] at h; subst h; exact h'
  | x :: xs, _, _, _, h, h' => by
    simp only [Vs] at h
    obtain ⟨a, r, rfl, h1, h2⟩ := h
    exact ⟨a, _, rfl, h1, Vs.append h2 h'⟩
theorem Vs.one {K : Frag} {φ : Phi} {N : Led} {g : GV} {v : Value} (h : V K φ N g v) : Vs K φ N [g] [v] := ⟨v, [], rfl, h, rfl⟩
theorem Vs.split {K : Frag} {φ : Phi} {N : Led} : ∀ {g g' : List GV} {v : List Value}, Vs K φ N (g ++ g') v → ∃ a b, v = a ++ b ∧ Vs K φ N g a ∧ Vs K φ N g' b
  | [], _, v, h => ⟨[], v, rfl, rfl, h⟩
  | x :: xs, g', v, h => by
    simp only [List.cons_append, Vs] at h
    obtain ⟨a, r, rfl, h1, h2⟩ := h
    obtain ⟨p, q, rfl, h3, h4⟩ := Vs.split h2
    exact ⟨a :: p, q, rfl, ⟨a, p, rfl, h1, h3⟩, h4⟩
theorem Vs.set {K : Frag} {φ : Phi} {N : Led} {x : GV} {y : Value} (hv : V K φ N x y) : ∀ {g : List GV} {v : List Value} (i : Nat), Vs K φ N g v → Vs K φ N (g.set i x) (v.set i y)
  | [], _, _, h => by simp only [Vs] at h; subst h; exact rfl
  | z :: zs, _, i, h => by
    simp only [Vs] at h
    obtain ⟨a, r, rfl, h1, h2⟩ := h
    cases i with
    | zero => exact ⟨y, r, rfl, hv, h2⟩
    | succ i => exact ⟨a, _, rfl, h1, Vs.set hv i h2⟩
end Mine
end

section
set_option maxRecDepth 100000
set_option autoImplicit false
set_option tactic.hygienic false
namespace Mine
open PySem PySem.W PySem.Calls PyProof.Rows

/-- a ledger with one object put anew -/
noncomputable def upd (d : Addr) (x : Obj) (N : Led) : Led := N.map fun p => if p.1 = d then (d, x) else p
theorem upd_keys (d : Addr) (x : Obj) (N : Led) : (upd d x N).map (·.1) = N.map (·.1) := by
  unfold upd
  rw [List.map_map]
  apply List.map_congr_left
  intro p _
  simp only [Function.comp]
  split <;> simp_all
theorem upd_ne {d : Addr} {x : Obj} {N : Led} {p : Addr × Obj} (h : p ∈ N) (q : p.1 ≠ d) : p ∈ upd d x N :=
  List.mem_map.mpr ⟨p, h, by rw [if_neg q]⟩
theorem upd_at {d : Addr} {x y : Obj} {N : Led} (h : (d, y) ∈ N) : (d, x) ∈ upd d x N :=
  List.mem_map.mpr ⟨_, h, by rw [if_pos rfl]⟩
theorem upd_off {d : Addr} {x : Obj} {N : Led} (h : d ∉ N.map (·.1)) : upd d x N = N := by
  unfold upd
  conv => rhs; rw [← List.map_id N]
  apply List.map_congr_left
  intro p hp
  rw [if_neg]; rfl
  intro e; exact h (List.mem_map.mpr ⟨p, hp, e⟩)
theorem upd_Upd {d : Addr} {x y : Obj} : ∀ {N : Led}, (N.map (·.1)).Nodup → (d, y) ∈ N → Upd d y x N (upd d x N)
  | [], _, h => by cases h
  | p :: r, nd, h => by
    rw [List.map_cons, List.nodup_cons] at nd
    by_cases q : p.1 = d
    · have e : p = (d, y) := by
        rcases List.mem_cons.mp h with e | h
        · exact e.symm
        · exact absurd (List.mem_map.mpr ⟨_, h, q.symm⟩) nd.1
      subst e
      have : upd d x ((d, y) :: r) = (d, x) :: upd d x r := by unfold upd; rw [List.map_cons, if_pos rfl]
      rw [this, upd_off nd.1]
      exact Upd.head fun p hp e => nd.1 (List.mem_map.mpr ⟨p, hp, e⟩)
    · have : upd d x (p :: r) = p :: upd d x r := by unfold upd; rw [List.map_cons, if_neg q]
      rw [this]
      refine Upd.tail q (upd_Upd nd.2 ?_)
      rcases List.mem_cons.mp h with e | h
      · exact absurd (by rw [← e]) q
      · exact h

section
variable {K : Frag} {P : Params} {φ : Phi} {ah : AH} {N : Led}

theorem OR.in_led {o : AO} {p : Addr × Addr} (O : OR K P φ N o p) {a : Addr} (h : a ∈ footO o p) : a ∈ N.map (·.1) := by
  cases o with
  | list xs => obtain ⟨_, _, hm, _⟩ := O; rw [List.mem_singleton.mp h]; exact List.mem_map.mpr ⟨_, hm, rfl⟩
  | dict ks => obtain ⟨_, _, hm, _⟩ := O; rw [List.mem_singleton.mp h]; exact List.mem_map.mpr ⟨_, hm, rfl⟩
  | inst C fs =>
    obtain ⟨_, _, hm, hd, _⟩ := O
    rcases List.mem_cons.mp h with e | e
    · rw [e]; exact List.mem_map.mpr ⟨_, hm, rfl⟩
    · rw [List.mem_singleton.mp e]; exact List.mem_map.mpr ⟨_, hd, rfl⟩
theorem HR.foot_in (H : HR K P φ ah N) {a : Addr} (h : a ∈ foot φ ah) : a ∈ N.map (·.1) := by
  obtain ⟨i, o, p, h1, h2, h3⟩ := foot_mem h
  exact (H.ob i o p h1 h2).in_led h3

theorem OR.stay {φ' : Phi} {N' : Led} (S : Stay φ N φ' N') {o : AO} {p : Addr × Addr} (O : OR K P φ N o p)
    (k : ∀ a x, a ∈ footO o p → (a, x) ∈ N → (a, x) ∈ N') : OR K P φ' N' o p := by
  cases o with
  | list xs => obtain ⟨vs, n, hm, hv⟩ := O; exact ⟨vs, n, k _ _ (.head _) hm, Vs.stay S _ _ hv⟩
  | dict ks => obtain ⟨es, n, hm, hv⟩ := O; exact ⟨es, n, k _ _ (.head _) hm, Es.stay S _ _ hv⟩
  | inst C fs =>
    obtain ⟨es, n, hm, hd, hv⟩ := O
    exact ⟨es, n, k _ _ (.head _) hm, k _ _ (.tail _ (.head _)) hd, Es.stay S _ _ hv⟩

theorem footL_apart : ∀ {φ : List (Addr × Addr)} {ah : List AO}, (footL φ ah).Nodup → ∀ {i j : Nat} {o o' : AO} {p p' : Addr × Addr}, ah[i]? = some o → φ[i]? = some p → ah[j]? = some o' → φ[j]? = some p' →
    ∀ {a : Addr}, a ∈ footO o p → a ∈ footO o' p' → i = j
  | [], _, _, _, _, _, _, _, _, _, h, _, _, _, _, _ => by simp at h
  | _ :: _, [], _, _, _, _, _, _, _, h, _, _, _, _, _, _ => by simp at h
  | q :: φ, x :: ah, nd, i, j, o, o', p, p', h1, h2, h3, h4, a, m1, m2 => by
    have nd' : (footO x q ++ footL φ ah).Nodup := nd
    rw [List.nodup_append] at nd'
    obtain ⟨n1, n2, n3⟩ := nd'
    cases i with
    | zero =>
      cases j with
      | zero => rfl
      | succ j =>
        simp at h1 h2; subst h1 h2
        exact absurd rfl (n3 a m1 a (mem_footL (by simpa using h3) (by simpa using h4) m2))
    | succ i =>
      cases j with
      | zero =>
        simp at h3 h4; subst h3 h4
        exact absurd rfl (n3 a m2 a (mem_footL (by simpa using h1) (by simpa using h2) m1))
      | succ j => exact congrArg Nat.succ (footL_apart n2 (by simpa using h1) (by simpa using h2) (by simpa using h3) (by simpa using h4) m1 m2)
theorem foot_apart {φ : Phi} {ah : AH} (nd : (foot φ ah).Nodup) {i j : Rf} {o o' : AO} {p p' : Addr × Addr} (h1 : ah.get i = some o) (h2 : φ.get i = some p) (h3 : ah.get j = some o') (h4 : φ.get j = some p')
    {a : Addr} (m1 : a ∈ footO o p) (m2 : a ∈ footO o' p') : i = j := by
  unfold foot at nd
  rw [List.nodup_append, List.nodup_append] at nd
  obtain ⟨nc, ⟨n1, n2, n3⟩, n4⟩ := nd
  cases i with
  | c i => cases j with
    | c j => exact congrArg Rf.c (footL_apart nc h1 h2 h3 h4 m1 m2)
    | d j => exact absurd rfl (n4 a (mem_footL h1 h2 m1) a (List.mem_append_left _ (mem_footL h3 h4 m2)))
    | n j => exact absurd rfl (n4 a (mem_footL h1 h2 m1) a (List.mem_append_right _ (mem_footL h3 h4 m2)))
  | d i => cases j with
    | c j => exact absurd rfl (n4 a (mem_footL h3 h4 m2) a (List.mem_append_left _ (mem_footL h1 h2 m1)))
    | d j => exact congrArg Rf.d (footL_apart n1 h1 h2 h3 h4 m1 m2)
    | n j => exact absurd rfl (n3 a (mem_footL h1 h2 m1) a (mem_footL h3 h4 m2))
  | n i => cases j with
    | c j => exact absurd rfl (n4 a (mem_footL h3 h4 m2) a (List.mem_append_right _ (mem_footL h1 h2 m1)))
    | d j => exact absurd rfl (n3 a (mem_footL h3 h4 m2) a (mem_footL h1 h2 m1))
    | n j => exact congrArg Rf.n (footL_apart n2 h1 h2 h3 h4 m1 m2)

theorem footL_set : ∀ {φ : List (Addr × Addr)} {ah : List AO} {i : Nat} {o o' : AO} {p : Addr × Addr}, ah[i]? = some o → φ[i]? = some p → footO o' p = footO o p → footL φ (ah.set i o') = footL φ ah
  | [], _, _, _, _, _, _, h, _ => by simp at h
  | _ :: _, [], _, _, _, _, h, _, _ => by simp at h
  | q :: φ, x :: ah, i, o, o', p, h1, h2, h3 => by
    cases i with
    | zero =>
      simp at h1 h2; subst h1 h2
      show footO o' q ++ footL φ ah = footO x q ++ footL φ ah
      rw [h3]
    | succ i =>
      show footO x q ++ footL φ (ah.set i o') = footO x q ++ footL φ ah
      rw [footL_set (by simpa using h1) (by simpa using h2) h3]
theorem foot_set {φ : Phi} {ah : AH} {r : Rf} {o o' : AO} {p : Addr × Addr} (h1 : ah.get r = some o) (h2 : φ.get r = some p) (h3 : footO o' p = footO o p) : foot φ (ah.set r o') = foot φ ah := by
  cases r with
  | c i => show footL φ.c (ah.c.set i o') ++ _ = _; rw [footL_set h1 h2 h3]; rfl
  | d i => show footL φ.c ah.c ++ (footL φ.d (ah.d.set i o') ++ _) = _; rw [footL_set h1 h2 h3]; rfl
  | n i => show footL φ.c ah.c ++ (footL φ.d ah.d ++ footL φ.n (ah.n.set i o')) = _; rw [footL_set h1 h2 h3]; rfl
theorem T3.set_lc {α : Type} (t : T3 α) (r : Rf) (x : α) : (t.set r x).c.length = t.c.length := by cases r <;> simp [T3.set]
theorem T3.set_ld {α : Type} (t : T3 α) (r : Rf) (x : α) : (t.set r x).d.length = t.d.length := by cases r <;> simp [T3.set]
theorem T3.set_ln {α : Type} (t : T3 α) (r : Rf) (x : α) : (t.set r x).n.length = t.n.length := by cases r <;> simp [T3.set]
theorem list_set_some {α : Type} {l : List α} {i : Nat} {x y : α} (h : l[i]? = some y) : (l.set i x)[i]? = some x := by
  rw [List.getElem?_set_self (by
    rcases Nat.lt_or_ge i l.length with q | q
    · exact q
    · rw [List.getElem?_eq_none q] at h; cases h)]
theorem T3.get_set {α : Type} {t : T3 α} {r : Rf} {x y : α} (h : t.get r = some y) : (t.set r x).get r = some x := by
  cases r <;> exact list_set_some h
theorem T3.get_ne {α : Type} {t : T3 α} {r r' : Rf} {x : α} (h : r ≠ r') : (t.set r x).get r' = t.get r' := by
  cases r <;> cases r' <;> first | rfl | (exact List.getElem?_set_ne fun e => h (by rw [e]))

/-- one changing object is put anew -/
theorem HR.set (H : HR K P φ ah N) {i : Rf} {o o' : AO} {p : Addr × Addr} {d : Addr} {x y : Obj} (h1 : ah.get i = some o) (h2 : φ.get i = some p) (hm : (d, y) ∈ N) (hd : d ∈ footO o p)
    (hf : footO o' p = footO o p) (hs : szO o') (ho : Stay φ N φ (upd d x N) → OR K P φ (upd d x N) o' p) :
    HR K P φ (ah.set i o') (upd d x N) ∧ Ext φ ah N φ (ah.set i o') (upd d x N) ∧ Stay φ N φ (upd d x N) := by
  have hdf := mem_foot h1 h2 hd
  have S : Stay φ N φ (upd d x N) := ⟨PLe.refl _, fun a vs h => upd_ne h fun (e : a = d) => H.tup_off h (e ▸ hdf)⟩
  refine ⟨⟨by rw [T3.set_lc]; exact H.lc, by rw [T3.set_ld]; exact H.ld, by rw [T3.set_ln]; exact H.ln, by rw [upd_keys]; exact H.nd, by rw [foot_set h1 h2 hf]; exact H.ft, fun j oj pj g1 g2 => ?_, fun j oj g1 => ?_⟩, ⟨PLe.refl _, fun q hq hn => upd_ne hq fun e => hn (by rw [e]; exact hdf), fun a ha => .inl (by rw [foot_set h1 h2 hf] at ha; exact ha), fun a ha => by rw [upd_keys]; exact ha⟩, S⟩
  by_cases e : i = j
  · subst e
    rw [h2] at g2; cases g2
    rw [T3.get_set h1] at g1
    cases g1
    exact ho S
  · rw [T3.get_ne e] at g1
    refine OR.stay S (H.ob j oj pj g1 g2) fun a z ha hz => upd_ne hz fun q => e ?_
    have q : a = d := q
    subst q
    exact foot_apart H.ft h1 h2 g1 g2 hd ha
  · by_cases e : i = j
    · subst e
      rw [T3.get_set h1] at g1
      cases g1
      exact hs
    · rw [T3.get_ne e] at g1
      exact H.sz j oj g1

theorem footL_push : ∀ {φ : List (Addr × Addr)} {ah : List AO}, φ.length = ah.length → ∀ (o : AO) (p : Addr × Addr), footL (φ ++ [p]) (ah ++ [o]) = footL φ ah ++ footO o p
  | [], [], _, o, p => by show footO o p ++ [] = _; rw [List.append_nil]; rfl
  | [], _ :: _, h, _, _ => by simp at h
  | _ :: _, [], h, _, _ => by simp at h
  | q :: φ, x :: ah, h, o, p => by
    show footO x q ++ footL (φ ++ [p]) (ah ++ [o]) = (footO x q ++ footL φ ah) ++ footO o p
    rw [footL_push (by simpa using h), List.append_assoc]
theorem foot_push {φ : Phi} {ah : AH} (hc : φ.c.length = ah.c.length) (hd : φ.d.length = ah.d.length) (hn : φ.n.length = ah.n.length) (q : Rg) (o : AO) (p : Addr × Addr) : (foot (φ.push q p) (ah.push q o)).Perm (foot φ ah ++ footO o p) := by
  unfold foot
  cases q with
  | c =>
    show (footL (φ.c ++ [p]) (ah.c ++ [o]) ++ (footL φ.d ah.d ++ footL φ.n ah.n)).Perm _
    rw [footL_push hc, List.append_assoc, List.append_assoc]
    exact List.Perm.append_left _ List.perm_append_comm
  | d =>
    show (footL φ.c ah.c ++ (footL (φ.d ++ [p]) (ah.d ++ [o]) ++ footL φ.n ah.n)).Perm _
    rw [footL_push hd, List.append_assoc, List.append_assoc, List.append_assoc]
    exact List.Perm.append_left _ (List.Perm.append_left _ List.perm_append_comm)
  | n =>
    show (footL φ.c ah.c ++ (footL φ.d ah.d ++ footL (φ.n ++ [p]) (ah.n ++ [o]))).Perm _
    rw [footL_push hn]
    simp only [List.append_assoc]
    exact List.Perm.refl _
theorem app_get {α : Type} {l : List α} {x y : α} {i : Nat} (h : (l ++ [x])[i]? = some y) : l[i]? = some y ∨ (i = l.length ∧ y = x) := by
  rcases Nat.lt_trichotomy i l.length with q | q | q
  · rw [List.getElem?_append_left q] at h; exact .inl h
  · subst q
    rw [List.getElem?_append_right (Nat.le_refl _), Nat.sub_self] at h
    cases h; exact .inr ⟨rfl, rfl⟩
  · rw [List.getElem?_append_right (Nat.le_of_lt q)] at h
    have : 1 ≤ i - l.length := by omega
    rw [List.getElem?_eq_none (by simpa using this)] at h
    cases h
theorem T3.get_push {α : Type} {t : T3 α} {q : Rg} {x : α} {r : Rf} {y : α} (h : (t.push q x).get r = some y) : t.get r = some y ∨ (r = t.nx q ∧ y = x) := by
  cases q <;> cases r <;> first | exact .inl h | exact (app_get h).imp id fun ⟨a, b⟩ => ⟨by rw [a]; rfl, b⟩
theorem T3.get_push_self {α : Type} (t : T3 α) (q : Rg) (x : α) : (t.push q x).get (t.nx q) = some x := by
  have e : ∀ l : List α, (l ++ [x])[l.length]? = some x := fun l => by
    rw [List.getElem?_append_right (Nat.le_refl _), Nat.sub_self]; rfl
  cases q <;> exact e _
theorem T3.get_nx {α : Type} (t : T3 α) (q : Rg) : t.get (t.nx q) = none := by
  cases q <;> exact List.getElem?_eq_none (Nat.le_refl _)
theorem nx_eq {φ : Phi} {ah : AH} (hc : φ.c.length = ah.c.length) (hd : φ.d.length = ah.d.length) (hn : φ.n.length = ah.n.length) (q : Rg) : φ.nx q = ah.nx q := by
  cases q
  · exact congrArg Rf.c hc
  · exact congrArg Rf.d hd
  · exact congrArg Rf.n hn
theorem T3.push_len {α β : Type} {t : T3 α} {u : T3 β} (hc : t.c.length = u.c.length) (hd : t.d.length = u.d.length) (hn : t.n.length = u.n.length) (q : Rg) (x : α) (y : β) :
    (t.push q x).c.length = (u.push q y).c.length ∧ (t.push q x).d.length = (u.push q y).d.length ∧ (t.push q x).n.length = (u.push q y).n.length := by
  cases q <;> simp [T3.push, hc, hd, hn]
theorem PLe.push (φ : Phi) (q : Rg) (p : Addr × Addr) : PLe φ (φ.push q p) := by
  cases q
  · exact ⟨List.prefix_append .., List.prefix_rfl, List.prefix_rfl⟩
  · exact ⟨List.prefix_rfl, List.prefix_append .., List.prefix_rfl⟩
  · exact ⟨List.prefix_rfl, List.prefix_rfl, List.prefix_append ..⟩

/-- a new changing object -/
theorem HR.push (H : HR K P φ ah N) (q : Rg) {o : AO} {p : Addr × Addr} {N' : Led} (sub : ∀ q ∈ N, q ∈ N') (nd : (N'.map (·.1)).Nodup) (fr : ∀ a ∈ footO o p, a ∉ N.map (·.1)) (fn : (footO o p).Nodup) (hs : szO o)
    (ho : Stay φ N (φ.push q p) N' → OR K P (φ.push q p) N' o p) : HR K P (φ.push q p) (ah.push q o) N' ∧ Ext φ ah N (φ.push q p) (ah.push q o) N' ∧ Stay φ N (φ.push q p) N' := by
  have S : Stay φ N (φ.push q p) N' := ⟨PLe.push _ _ _, fun a vs h => sub _ h⟩
  have FP := foot_push H.lc H.ld H.ln q o p
  obtain ⟨l1, l2, l3⟩ := T3.push_len H.lc H.ld H.ln q p o
  refine ⟨⟨l1, l2, l3, nd, ?_, fun j oj pj g1 g2 => ?_, fun j oj g1 => ?_⟩, ⟨PLe.push _ _ _, fun q hq _ => sub q hq, fun a ha => ?_, fun a ha => ?_⟩, S⟩
  · rw [FP.nodup_iff, List.nodup_append]
    exact ⟨H.ft, fn, fun a ha b hb e => fr b hb (e ▸ H.foot_in ha)⟩
  · rcases T3.get_push g1 with g | ⟨rfl, rfl⟩
    · rcases T3.get_push g2 with g' | ⟨rfl, rfl⟩
      · exact OR.stay S (H.ob j oj pj g g') fun a z _ hz => sub _ hz
      · rw [nx_eq H.lc H.ld H.ln, T3.get_nx] at g
        cases g
    · rw [← nx_eq H.lc H.ld H.ln, T3.get_push_self] at g2
      cases g2
      exact ho S
  · rcases T3.get_push g1 with g | ⟨rfl, rfl⟩
    · exact H.sz j oj g
    · exact hs
  · rw [FP.mem_iff] at ha
    exact (List.mem_append.mp ha).imp id fun h => fr a h
  · obtain ⟨q, hq, rfl⟩ := List.mem_map.mp ha
    exact List.mem_map.mpr ⟨q, sub q hq, rfl⟩
/-- a new object that is no changing one (a tuple, an iterator, a frame's own) -/
theorem HR.more (H : HR K P φ ah N) {N' : Led} (sub : ∀ q ∈ N, q ∈ N') (nd : (N'.map (·.1)).Nodup) : HR K P φ ah N' ∧ Ext φ ah N φ ah N' ∧ Stay φ N φ N' := by
  have S : Stay φ N φ N' := ⟨PLe.refl _, fun a vs h => sub _ h⟩
  refine ⟨⟨H.lc, H.ld, H.ln, nd, H.ft, fun j oj pj g1 g2 => OR.stay S (H.ob j oj pj g1 g2) fun a z _ hz => sub _ hz, H.sz⟩, ⟨PLe.refl _, fun q hq _ => sub q hq, fun a ha => .inl ha, fun a ha => ?_⟩, S⟩
  obtain ⟨q, hq, rfl⟩ := List.mem_map.mp ha
  exact List.mem_map.mpr ⟨q, sub q hq, rfl⟩
end

/-- what the interpreter's state bears at a step of a frame -/
noncomputable abbrev Loc := List (Str × GV)
noncomputable def LR (K : Frag) (φ : Phi) (N : Led) (loc : Loc) (m : Str → Option Value) : Prop := ∀ x g, loc.lookup x = some g → ∃ v, m x = some v ∧ V K φ N g v
theorem LR.stay {K : Frag} {φ φ' : Phi} {N N' : Led} {loc : Loc} {m : Str → Option Value} (S : Stay φ N φ' N') (h : LR K φ N loc m) : LR K φ' N' loc m := fun x g e =>
  let ⟨v, a, b⟩ := h x g e; ⟨v, a, V.stay S _ _ b⟩

structure Li (K : Frag) (P : Params) (h₀ : Heap) (L : Addr) (loc : Loc) (ah : AH) (φ : Phi) (N : Led) (m : Str → Option Value) (h : Heap) : Prop where
  fr : Fr h₀ L h m
  nw : News h₀ L h N
  hr : HR K P φ ah N
  lc : LR K φ N loc m
end Mine
end

section
set_option maxRecDepth 100000
set_option autoImplicit false
set_option tactic.hygienic false
namespace Mine
open PySem PySem.W PySem.Calls PyProof.Rows

/-- what is known of a class of the text -/
structure CI where
  init : Option Nat
  meths : List (Str × Nat)
  flds : List Str
structure ClsOK (K : Frag) (C : Nat) (ci : CI) : Prop where
  pg : plainGet K C Str.empty = true
  hd : hasDictIn K C = true
  fld : ∀ x : Str, x ∈ ci.flds → findIn K (.ref C) x = some none
  sa : findIn K (.ref C) "__setattr__" = some (some (.builtin "object.__setattr__"))
  po : plainOver K C = true
  me : ∀ (x : Str) (f : Nat), ci.meths.lookup x = some f → findIn K (.ref C) x = some (some (.ref f)) ∧ isFn K (.ref f) = true
  mak : makesIn K C = true
  kp : keepIn K (.ref C) = true
  ini : ∀ (f : Nat), ci.init = some f → findIn K (.ref C) "__init__" = some (some (.ref f)) ∧ isFn K (.ref f) = true

theorem beq_comm_str (a b : Str) : (a == b) = (b == a) := by
  rw [Bool.eq_iff_iff, beq_iff_eq, beq_iff_eq]; exact eq_comm
theorem isStr_key {x y : Str} {t : Tok} {e : DictEntry} (h : e.key = .str x t) : e.key.isStr y = (y == x) := by
  rw [h]; exact beq_comm_str x y
theorem refKey_str {x : Str} {t : Tok} {e : DictEntry} (h : e.key = .str x t) : e.refKey = false := by
  unfold DictEntry.refKey; rw [h]

section
variable {K : Frag} {P : Params} {φ : Phi} {N : Led}
theorem Es.no_ref : ∀ {fs : List (Str × GV)} {es : List DictEntry}, Es K P φ N fs es → es.any (·.refKey) = false
  | [], _, h => by simp only [Es] at h; subst h; rfl
  | x :: xs, _, h => by
    simp only [Es] at h
    obtain ⟨e, r, rfl, ⟨t, hk⟩, _, _, h4⟩ := h
    rw [List.any_cons, refKey_str hk, Es.no_ref h4]; rfl
theorem Es.find : ∀ {fs : List (Str × GV)} {es : List DictEntry} {x : Str} {g : GV}, Es K P φ N fs es → fs.lookup x = some g → ∃ v, getL x es = some (some v) ∧ V K φ N g v
  | [], _, _, _, _, e => by simp at e
  | y :: ys, _, x, g, h, e => by
    simp only [Es] at h
    obtain ⟨d, r, rfl, ⟨t, hk⟩, _, hv, h4⟩ := h
    obtain ⟨yx, yg⟩ := y
    rw [List.lookup_cons] at e
    unfold getL
    rw [List.find?_cons, isStr_key hk]
    cases q : x == yx with
    | true => rw [q] at e; cases e; exact ⟨d.val, rfl, hv⟩
    | false =>
      rw [q] at e
      obtain ⟨v, a, b⟩ := Es.find h4 e
      unfold getL at a
      refine ⟨v, ?_, b⟩
      dsimp only
      cases q2 : List.find? (fun x_1 => x_1.key.isStr x) r with
      | some z => rw [q2] at a; exact a
      | none =>
        rw [q2] at a
        dsimp only at a ⊢
        split at a <;> simp at a
theorem Es.miss : ∀ {fs : List (Str × GV)} {es : List DictEntry} {x : Str}, Es K P φ N fs es → fs.lookup x = none → getL x es = some none
  | [], _, _, h, _ => by simp only [Es] at h; subst h; rfl
  | y :: ys, _, x, h, e => by
    have nr := h.no_ref
    simp only [Es] at h
    obtain ⟨d, r, rfl, ⟨t, hk⟩, _, hv, h4⟩ := h
    obtain ⟨yx, yg⟩ := y
    rw [List.lookup_cons] at e
    cases q : x == yx with
    | true => rw [q] at e; cases e
    | false =>
      rw [q] at e
      have z := Es.miss h4 e
      unfold getL at z ⊢
      rw [List.find?_cons, isStr_key hk, q]
      dsimp only
      cases q2 : List.find? (fun x_1 => x_1.key.isStr x) r with
      | some w => rw [q2] at z; simp at z
      | none => dsimp only; rw [nr]; rfl

/-- a field stored -/
noncomputable def putF (x : Str) (g : GV) : List (Str × GV) → List (Str × GV)
  | [] => [(x, g)]
  | y :: r => if x == y.1 then (y.1, g) :: r else y :: putF x g r
theorem putF_length (x : Str) (g : GV) : ∀ fs : List (Str × GV), (putF x g fs).length ≤ fs.length + 1
  | [] => Nat.le_refl _
  | y :: r => by
    unfold putF
    split
    · simp
    · have := putF_length x g r; simp; omega
theorem Es.put {x : Str} {g : GV} {v : Value} (hv : V K φ N g v) (t : Tok) : ∀ {fs : List (Str × GV)} {es : List DictEntry}, Es K P φ N fs es →
    Es K P φ N (putF x g fs) (putL x (PyData.keyHash P x) (.str x t) v es)
  | [], _, h => by
    simp only [Es] at h; subst h
    exact ⟨_, [], rfl, ⟨t, rfl⟩, rfl, hv, rfl⟩
  | y :: ys, _, h => by
    simp only [Es] at h
    obtain ⟨d, r, rfl, ⟨u, hk⟩, hh, hv', h4⟩ := h
    unfold putF putL
    rw [isStr_key hk]
    cases q : x == y.1 with
    | true => exact ⟨_, r, rfl, ⟨u, hk⟩, hh, hv, h4⟩
    | false => exact ⟨d, _, rfl, ⟨u, hk⟩, hh, hv', Es.put hv t h4⟩
theorem Es.length : ∀ {fs : List (Str × GV)} {es : List DictEntry}, Es K P φ N fs es → es.length = fs.length
  | [], _, h => by simp only [Es] at h; rw [h]; rfl
  | x :: xs, _, h => by
    simp only [Es] at h
    obtain ⟨a, r, e, _, _, _, h2⟩ := h
    rw [e, List.length_cons, List.length_cons, Es.length h2]
end

/-- no built-in function: what an attribute may be -/
noncomputable def plainV : GV → Bool
  | .bi _ => false
  | _ => true
theorem handed_V {K : Frag} {φ : Phi} {N : Led} {g : GV} {v : Value} (h : V K φ N g v) (p : plainV g = true) : handedIn v = true := by
  cases g <;> simp only [V] at h <;> first | (subst h; first | rfl | cases p) | (obtain ⟨_, rfl⟩ := h; rfl) | (obtain ⟨_, _, rfl, _⟩ := h; rfl) | (obtain ⟨_, _, rfl⟩ := h; rfl)

section
variable {prog : Program} {w : World} {A : Around} {E : Value → Shared → Prop} {s : Shared} {K : Frag} {h₀ : Heap} {L : Addr} {loc : Loc} {ah : AH} {φ : Phi} {N : Led} {m : Str → Option Value}

theorem Li.inst (I : Li K w.params h₀ L loc ah φ N m s.heap) {i : Rf} {C : Nat} {fs : List (Str × GV)} {v : Value} (h1 : ah.get i = some (.inst C fs)) (hv : V K φ N (.obj i) v) :
    ∃ p es n, φ.get i = some p ∧ v = .ref p.1 ∧ (p.1, instObj C p.2) ∈ N ∧ (p.2, dictOf es n) ∈ N ∧ Es K w.params φ N fs es ∧ InstAt s.heap p.1 (instObj C p.2) C (some (dictOf es n)) := by
  simp only [V] at hv
  obtain ⟨p, hp, rfl⟩ := hv
  obtain ⟨es, n, a, b, c⟩ := I.hr.ob i _ p h1 hp
  exact ⟨p, es, n, hp, rfl, a, b, c, InstAt.of_news I.nw a b⟩

theorem r_get (X₀ : K.In h₀) (I : Li K w.params h₀ L loc ah φ N m s.heap) {i : Rf} {C : Nat} {ci : CI} {fs : List (Str × GV)} {v : Value} {x : Str} {g : GV} {expr : Bool} {Q : Value → Shared → Prop}
    (h1 : ah.get i = some (.inst C fs)) (hv : V K φ N (.obj i) v) (c : ClsOK K C ci) (hx : x ∈ ci.flds) (hl : fs.lookup x = some g) (hp : plainV g = true)
    (k : ∀ u tk, V K φ N g u → Q u ⟨s.heap, s.gens, s.drawn, tk, s.os⟩) : wpAny (model prog w) A (getAttr v x expr) Q E s := by
  obtain ⟨p, es, n, _, rfl, _, _, e, J⟩ := I.inst h1 hv
  obtain ⟨u, a, b⟩ := e.find hl
  exact get_own I.fr X₀ J c.pg c.hd (c.fld x hx) rfl a (handed_V b hp) (k u _ b)

theorem r_set (X₀ : K.In h₀) (I : Li K w.params h₀ L loc ah φ N m s.heap) {i : Rf} {C : Nat} {ci : CI} {fs : List (Str × GV)} {v u : Value} {x : Str} {g : GV} {Q : Unit → Shared → Prop}
    (h1 : ah.get i = some (.inst C fs)) (hv : V K φ N (.obj i) v) (hu : V K φ N g u) (c : ClsOK K C ci) (hx : x ∈ ci.flds) (hz : fs.length < 1000)
    (k : ∀ N' h' tk, Li K w.params h₀ L loc (ah.set i (.inst C (putF x g fs))) φ N' m h' → Ext φ ah N φ (ah.set i (.inst C (putF x g fs))) N' → Q () ⟨h', s.gens, s.drawn, tk, s.os⟩) :
    wpAny (model prog w) A (setAttr v x u) Q E s := by
  obtain ⟨p, es, n, hp, rfl, hi, hd, e, J⟩ := I.inst h1 hv
  have hg : (getL x es).isSome = true := by
    cases q : fs.lookup x with
    | none => rw [e.miss q]; rfl
    | some g' => obtain ⟨_, a, _⟩ := e.find q; rw [a]; rfl
  have e' : ∀ {φ' : Phi} {N' : Led}, Stay φ N φ' N' → Es K w.params φ' N' (putF x g fs) (putL x (PyData.keyHash w.params x) (.str x (s.toks + 1)) u es) := fun S => Es.put (V.stay S _ _ hu) _ (Es.stay S _ _ e)
  refine set_dict I.fr X₀ I.nw J rfl c.sa c.po (by unfold takerIn; rw [c.fld x hx]; rfl) c.hd hg rfl (upd_Upd I.hr.nd hd) (by
    have := (e' ⟨PLe.refl _, fun _ _ h => h⟩).length; have := putF_length x g fs; omega) fun h' F' N' => ?_
  have ne : p.1 ≠ p.2 := by
    intro q
    have hd' : (p.1, dictOf es n) ∈ N := by rw [q]; exact hd
    exact Value.noConfusion (congrArg Obj.cls (eq_of_nodup I.hr.nd hi hd'))
  obtain ⟨H, X, S⟩ := I.hr.set (i := i) (o' := .inst C (putF x g fs)) (d := p.2) (x := dictOf (putL x (PyData.keyHash w.params x) (.str x (s.toks + 1)) u es) (putN x es n)) h1 hp hd (.tail _ (.head _)) rfl trivial
    (fun S => ⟨_, _, upd_ne hi ne, upd_at hd, e' S⟩)
  exact k _ h' _ ⟨F', N', H, I.lc.stay S⟩ X

theorem r_meth (X₀ : K.In h₀) (I : Li K w.params h₀ L loc ah φ N m s.heap) {i : Rf} {C : Nat} {ci : CI} {fs : List (Str × GV)} {v : Value} {x : Str} {f : Nat} {pl : Sem Bool} {Q : Value × List Value → Shared → Prop}
    (h1 : ah.get i = some (.inst C fs)) (hv : V K φ N (.obj i) v) (c : ClsOK K C ci) (hm : ci.meths.lookup x = some f) (hl : fs.lookup x = none) (k : Q (.ref f, [v]) s) : wpAny (model prog w) A (getMethod v x pl) Q E s := by
  obtain ⟨p, es, n, hp, rfl, hi, hd, e, J⟩ := I.inst h1 hv
  obtain ⟨a, b⟩ := c.me x f hm
  exact method_inst I.fr X₀ J c.pg a b (e.miss hl) k
end
end Mine
end

section
set_option maxRecDepth 100000
set_option autoImplicit false
set_option tactic.hygienic false
namespace Mine
open PySem PySem.W PySem.Calls PyProof.Rows

section
variable {prog : Program} {w : World} {A : Around} {E : Value → Shared → Prop} {s : Shared} {K : Frag} {h₀ : Heap} {L : Addr} {loc : Loc} {ah : AH} {φ : Phi} {N : Led} {m : Str → Option Value}

theorem Li.list (I : Li K w.params h₀ L loc ah φ N m s.heap) {i : Rf} {xs : List GV} {v : Value} (h1 : ah.get i = some (.list xs)) (hv : V K φ N (.obj i) v) :
    ∃ p vs n, φ.get i = some p ∧ v = .ref p.1 ∧ (p.1, listOf vs.toArray n) ∈ N ∧ Vs K φ N xs vs ∧ s.heap.IsList p.1 vs.toArray := by
  simp only [V] at hv
  obtain ⟨p, hp, rfl⟩ := hv
  obtain ⟨vs, n, a, b⟩ := I.hr.ob i _ p h1 hp
  exact ⟨p, vs, n, hp, rfl, a, b, ⟨_, (I.nw _ a).1, rfl, n, rfl⟩⟩

theorem Li.dict (I : Li K w.params h₀ L loc ah φ N m s.heap) {i : Rf} {ks : List (Str × GV)} {v : Value} (h1 : ah.get i = some (.dict ks)) (hv : V K φ N (.obj i) v) :
    ∃ p es n, φ.get i = some p ∧ v = .ref p.1 ∧ (p.1, dictOf es n) ∈ N ∧ Es K w.params φ N ks es := by
  simp only [V] at hv
  obtain ⟨p, hp, rfl⟩ := hv
  obtain ⟨es, n, a, b⟩ := I.hr.ob i _ p h1 hp
  exact ⟨p, es, n, hp, rfl, a, b⟩

theorem Li.tup (X₀ : K.In h₀) (I : Li K w.params h₀ L loc ah φ N m s.heap) {xs : List GV} {v : Value} (hv : V K φ N (.tup xs) v) :
    ∃ a vs, v = .ref a ∧ Vs K φ N xs vs ∧ IsTup s.heap a vs.toArray := by
  simp only [V] at hv
  obtain ⟨a, vs, rfl, hm, hx⟩ := hv
  refine ⟨a, vs, rfl, hx, ?_⟩
  rcases hm with hm | ⟨dd, sl, n, hm⟩
  · exact ⟨_, (I.nw _ hm).1, rfl, 0, rfl⟩
  · exact tupK (X₀.keeps I.fr.keep) hm

/-- the post of a list turned -/
theorem Li.setList (I : Li K w.params h₀ L loc ah φ N m s.heap) {i : Rf} {xs xs' : List GV} {p : Addr × Addr} {vs vs' : List Value} {n n' : Nat} {h' : Heap} (h1 : ah.get i = some (.list xs)) (hp : φ.get i = some p)
    (hm : (p.1, listOf vs.toArray n) ∈ N) (hs : xs'.length ≤ 1000000) (F' : Fr h₀ L h' m) (N' : News h₀ L h' (upd p.1 (listOf vs'.toArray n') N)) (hv : ∀ {φ' : Phi} {N' : Led}, Stay φ N φ' N' → Vs K φ' N' xs' vs') :
    Li K w.params h₀ L loc (ah.set i (.list xs')) φ (upd p.1 (listOf vs'.toArray n') N) m h' ∧ Ext φ ah N φ (ah.set i (.list xs')) (upd p.1 (listOf vs'.toArray n') N) := by
  obtain ⟨H, X, S⟩ := I.hr.set (i := i) (o' := .list xs') (d := p.1) (x := listOf vs'.toArray n') h1 hp hm (.head _) rfl hs (fun S => ⟨_, _, upd_at hm, hv S⟩)
  exact ⟨⟨F', N', H, I.lc.stay S⟩, X⟩

theorem line_le {n : Nat} (h : n ≤ 1048576) : n ≤ sizeLine := by rw [sizeLine_eq]; omega

theorem r_len (I : Li K w.params h₀ L loc ah φ N m s.heap) {i : Rf} {xs : List GV} {v : Value} {Q : Value → Shared → Prop} (h1 : ah.get i = some (.list xs)) (hv : V K φ N (.obj i) v) (hz : xs.length ≤ 1048576)
    (k : ∀ u tk, V K φ N (.int xs.length) u → Q u ⟨s.heap, s.gens, s.drawn, tk, s.os⟩) : wpAny (model prog w) A (call (.builtin "len") [v]) Q E s := by
  obtain ⟨p, vs, n, _, rfl, _, b, l⟩ := I.list h1 hv
  have e : vs.toArray.size = xs.length := by rw [List.size_toArray, b.length]
  exact call_len_list l (by omega) (k _ _ (by simp only [V]; exact ⟨s.toks + 1, by rw [e]⟩))
theorem r_truthyL (I : Li K w.params h₀ L loc ah φ N m s.heap) {i : Rf} {xs : List GV} {v : Value} {Q : Bool → Shared → Prop} (h1 : ah.get i = some (.list xs)) (hv : V K φ N (.obj i) v) (hz : xs.length ≤ 1048576)
    (k : ∀ tk, Q (!xs.isEmpty) ⟨s.heap, s.gens, s.drawn, tk, s.os⟩) : wpAny (model prog w) A (truthy v) Q E s := by
  obtain ⟨p, vs, n, _, rfl, _, b, l⟩ := I.list h1 hv
  have e : vs.toArray.size = xs.length := by rw [List.size_toArray, b.length]
  refine wpAny_truthy_list l (by omega) ?_
  have : vs.toArray.isEmpty = xs.isEmpty := by
    have := b.length
    cases vs <;> cases xs <;> simp_all
  rw [this]; exact k _

theorem r_append (I : Li K w.params h₀ L loc ah φ N m s.heap) {i : Rf} {xs : List GV} {g : GV} {v u : Value} {Q : Value → Shared → Prop} (h1 : ah.get i = some (.list xs)) (hv : V K φ N (.obj i) v) (hu : V K φ N g u) (hz : xs.length < 1000000)
    (k : ∀ N' h' tk, Li K w.params h₀ L loc (ah.set i (.list (xs ++ [g]))) φ N' m h' → Ext φ ah N φ (ah.set i (.list (xs ++ [g]))) N' → Q .none ⟨h', s.gens, s.drawn, tk, s.os⟩) :
    wpAny (model prog w) A (call (.builtin "list.append") [v, u]) Q E s := by
  obtain ⟨p, vs, n, hp, rfl, hm, b, l⟩ := I.list h1 hv
  have e : vs.toArray.size = xs.length := by rw [List.size_toArray, b.length]
  have e2 : vs.toArray.push u = (vs ++ [u]).toArray := by simp
  refine append_K (n := n) I.fr I.nw (by rw [e2]; exact upd_Upd I.hr.nd hm) (fun h' F' N' => ?_) (line_le (by omega))
  obtain ⟨a, b⟩ := I.setList h1 hp hm (by rw [List.length_append, List.length_singleton]; omega) F' N' fun S => (Vs.stay S _ _ b).append (Vs.one (V.stay S _ _ hu))
  exact k _ _ _ a b

theorem kl_last_snoc : ∀ (l : List Value) (y : Value), kl_last (l ++ [y]) = some (l, y)
  | [], _ => rfl
  | a :: r, y => by
    rw [List.cons_append, kl_last, kl_last_snoc r y]

theorem r_pop (I : Li K w.params h₀ L loc ah φ N m s.heap) {i : Rf} {xs : List GV} {g : GV} {v : Value} {Q : Value → Shared → Prop} (h1 : ah.get i = some (.list (xs ++ [g]))) (hv : V K φ N (.obj i) v) (hz : xs.length ≤ 1000000)
    (k : ∀ N' u h' tk, Li K w.params h₀ L loc (ah.set i (.list xs)) φ N' m h' → Ext φ ah N φ (ah.set i (.list xs)) N' → V K φ N' g u → Q u ⟨h', s.gens, s.drawn, tk, s.os⟩) :
    wpAny (model prog w) A (call (.builtin "list.pop") [v]) Q E s := by
  obtain ⟨p, vs, n, hp, rfl, hm, b, l⟩ := I.list h1 hv
  obtain ⟨a, c, rfl, ha, hc⟩ := b.split
  obtain ⟨u, r, rfl, hu, hr⟩ := hc
  have hr : r = [] := hr
  subst hr
  refine kl_pop (n := n) (p := a) (y := u) I.fr I.nw (by exact kl_last_snoc a u) (upd_Upd I.hr.nd hm) (by have := ha.length; apply line_le; simp; omega) (fun h' F' N' => ?_)
  have S := (I.hr.set (i := i) (o' := .list xs) (d := p.1) (x := listOf a.toArray (n + 1)) h1 hp hm (.head _) rfl (by show xs.length ≤ _; omega) (fun S => ⟨_, _, upd_at hm, Vs.stay S _ _ ha⟩)).2.2
  obtain ⟨x, y⟩ := I.setList h1 hp hm (by omega) F' N' fun S => Vs.stay S _ _ ha
  exact k _ u _ _ x y (V.stay S _ _ hu)

theorem r_insert (I : Li K w.params h₀ L loc ah φ N m s.heap) {i : Rf} {xs : List GV} {g : GV} {v u t : Value} {Q : Value → Shared → Prop} (h1 : ah.get i = some (.list xs)) (hv : V K φ N (.obj i) v) (hu : V K φ N g u) (ht : V K φ N (.int xs.length) t) (hz : xs.length < 1000000)
    (k : ∀ N' h' tk, Li K w.params h₀ L loc (ah.set i (.list (xs ++ [g]))) φ N' m h' → Ext φ ah N φ (ah.set i (.list (xs ++ [g]))) N' → Q .none ⟨h', s.gens, s.drawn, tk, s.os⟩) :
    wpAny (model prog w) A (call (.builtin "list.insert") [v, t, u]) Q E s := by
  obtain ⟨p, vs, n, hp, rfl, hm, b, l⟩ := I.list h1 hv
  simp only [V] at ht
  obtain ⟨tt, rfl⟩ := ht
  have e : vs.length = xs.length := b.length
  have e2 : kl_ins vs (xs.length : Int) u = vs ++ [u] := by
    unfold kl_ins
    have h0 : ¬ ((xs.length : Int) < 0) := by omega
    rw [if_neg h0, Int.toNat_natCast, e, Nat.min_self, ← e, List.take_length, List.drop_length]
  refine kl_insert (n := n) (l := vs ++ [u]) I.fr I.nw ?_ (by exact e2) (upd_Upd I.hr.nd hm) (by apply line_le; show vs.length ≤ _; omega) (fun h' F' N' => ?_)
  · unfold Builtin.List.listFitsIndex
    simp only [Bool.and_eq_true, decide_eq_true_eq]
    omega
  · obtain ⟨a, b⟩ := I.setList h1 hp hm (by rw [List.length_append, List.length_singleton]; omega) F' N' fun S => (Vs.stay S _ _ b).append (Vs.one (V.stay S _ _ hu))
    exact k _ _ _ a b

theorem r_getL (I : Li K w.params h₀ L loc ah φ N m s.heap) {i : Rf} {xs : List GV} {g : GV} {j : Int} {v t : Value} {Q : Value → Shared → Prop} (h1 : ah.get i = some (.list xs)) (hv : V K φ N (.obj i) v) (ht : V K φ N (.int j) t) (h0 : 0 ≤ j) (hz : xs.length ≤ 1048576)
    (hx : xs[j.toNat]? = some g) (k : ∀ u, V K φ N g u → Q u s) : wpAny (model prog w) A (getItem v t) Q E s := by
  obtain ⟨p, vs, n, hp, rfl, hm, b, l⟩ := I.list h1 hv
  simp only [V] at ht
  obtain ⟨tt, rfl⟩ := ht
  obtain ⟨u, a, c⟩ := b.get hx
  have : j.toNat < xs.length := by
    rcases Nat.lt_or_ge j.toNat xs.length with q | q
    · exact q
    · rw [List.getElem?_eq_none q] at hx; cases hx
  exact wpAny_getItem_list l h0 (by omega) (by simpa using a) (k u c)
theorem r_getLneg (I : Li K w.params h₀ L loc ah φ N m s.heap) {i : Rf} {xs : List GV} {g : GV} {j : Int} {v t : Value} {Q : Value → Shared → Prop} (h1 : ah.get i = some (.list xs)) (hv : V K φ N (.obj i) v) (ht : V K φ N (.int j) t) (h0 : j < 0) (h2 : -(xs.length : Int) ≤ j) (hz : xs.length ≤ 1048576)
    (hx : xs[(j + xs.length).toNat]? = some g) (k : ∀ u, V K φ N g u → Q u s) : wpAny (model prog w) A (getItem v t) Q E s := by
  obtain ⟨p, vs, n, hp, rfl, hm, b, l⟩ := I.list h1 hv
  simp only [V] at ht
  obtain ⟨tt, rfl⟩ := ht
  obtain ⟨u, a, c⟩ := b.get hx
  have e : vs.length = xs.length := b.length
  exact wpAny_getItem_list_neg l h0 (by rw [List.size_toArray, e]; exact h2) (by omega) (by rw [List.size_toArray, e]; simpa using a) (k u c)
theorem r_getT (X₀ : K.In h₀) (I : Li K w.params h₀ L loc ah φ N m s.heap) {xs : List GV} {g : GV} {j : Int} {q : Nat} {v t : Value} {Q : Value → Shared → Prop} (hv : V K φ N (.tup xs) v) (ht : V K φ N (.int j) t) (hlo : -(2 ^ 63) ≤ j) (hhi : j < 2 ^ 63)
    (hj : seqIndex? j xs.length = some q) (hx : xs[q]? = some g) (k : ∀ u, V K φ N g u → Q u s) : wpAny (model prog w) A (getItem v t) Q E s := by
  obtain ⟨a, vs, rfl, b, l⟩ := I.tup X₀ hv
  simp only [V] at ht
  obtain ⟨tt, rfl⟩ := ht
  obtain ⟨u, c, d⟩ := b.get hx
  exact PyProof.Rows.getItem_tuple l hlo hhi (by rw [List.size_toArray, b.length]; exact hj) (by simpa using c) (k u d)
theorem r_setL (I : Li K w.params h₀ L loc ah φ N m s.heap) {i : Rf} {xs : List GV} {g : GV} {j : Int} {v t u : Value} {Q : Unit → Shared → Prop} (h1 : ah.get i = some (.list xs)) (hv : V K φ N (.obj i) v) (ht : V K φ N (.int j) t) (hu : V K φ N g u) (h0 : 0 ≤ j) (h2 : j < xs.length) (hz : xs.length ≤ 1048576)
    (k : ∀ N' h' tk, Li K w.params h₀ L loc (ah.set i (.list (xs.set j.toNat g))) φ N' m h' → Ext φ ah N φ (ah.set i (.list (xs.set j.toNat g))) N' → Q () ⟨h', s.gens, s.drawn, tk, s.os⟩) :
    wpAny (model prog w) A (setItem v t u) Q E s := by
  obtain ⟨p, vs, n, hp, rfl, hm, b, l⟩ := I.list h1 hv
  simp only [V] at ht
  obtain ⟨tt, rfl⟩ := ht
  have e : vs.length = xs.length := b.length
  have U := upd_Upd (x := listOf (vs.set j.toNat u).toArray n) I.hr.nd hm
  obtain ⟨pre, post, e1, e2, a1, a2⟩ := U.split
  have z := I.nw _ hm
  have N0 : News h₀ L s.heap (pre ++ (p.1, listOf vs.toArray n) :: post) := e1 ▸ I.nw
  refine ki_setAt z.1 h0 (by omega) (by rw [List.size_toArray]; omega) ?_
  have F' := I.fr.change (Heap.SameBut.update s.heap p.1 (Obj.mapSeq (·.setIfInBounds j.toNat u))) z.2.1 z.2.2
  have N' : News h₀ L (s.heap.update p.1 (Obj.mapSeq (·.setIfInBounds j.toNat u))) (pre ++ (p.1, listOf (vs.set j.toNat u).toArray n) :: post) := by
    refine ki_turn _ N0 a1 a2 ?_ ?_
    · apply Array.toList_inj.mp; simp
    · simp
  rw [← e2] at N'
  obtain ⟨a, b⟩ := I.setList h1 hp hm (by rw [List.length_set]; exact I.hr.sz _ _ h1) F' N' fun S => Vs.set (V.stay S _ _ hu) _ (Vs.stay S _ _ b)
  exact k _ _ _ a b
end
end Mine
end

section
set_option maxRecDepth 100000
set_option autoImplicit false
set_option tactic.hygienic false
namespace Mine
open PySem PySem.W PySem.Calls PyProof.Rows

/-- positional binding with defaults -/
noncomputable def slotsOf {α : Type} (ns : List Str) (ds vs : List α) : List (Str × α) :=
  ((ns.drop (ns.length - ds.length)).zip ds).foldl (fun sl p => if (sl.lookup p.1).isNone then sl ++ [(p.1, p.2)] else sl) (ns.zip vs)
noncomputable def bnd {α : Type} (ns : List Str) (ds vs : List α) : List (Str × α) :=
  ns.filterMap fun n => ((slotsOf ns ds vs).lookup n).map (n, ·)
noncomputable def bndOk {α : Type} (ns : List Str) (ds vs : List α) : Bool :=
  decide (vs.length ≤ ns.length) && decide (ds.length ≤ ns.length) && ((ns.take (ns.length - ds.length)).filter fun n => ((ns.zip vs).lookup n).isNone).isEmpty

theorem forIn_fold {α β : Type} {l : List α} {f : α → β → Sem (ForInStep β)} (g : β → α → β) (h : ∀ x c, f x c = pure (.yield (g c x))) (c : β) :
    forIn l c f = pure (l.foldl g c) := by
  induction l generalizing c with
  | nil => rfl
  | cons x l ih =>
    rw [List.forIn_cons, h x c, pure_bind]
    exact ih _

structure PlainParams (p : Arguments) : Prop where
  po : p.posonlyargs = []
  va : p.vararg = none
  ko : p.kwonlyargs = []
  ka : p.kwarg = none

theorem binds_plain {s : Shared} {fd : FuncData} {vs ds : List Value} (hp : PlainParams fd.params) (ok : bndOk (fd.params.args.map (·.arg)) ds vs = true)
    (hd : (fd.defaults = .none ∧ ds = []) ∨ ∃ T o n, fd.defaults = .ref T ∧ s.heap.get? T = some o ∧ o.data = .seq ds.toArray n) :
    BindsTo s fd ⟨vs, []⟩ (bnd (fd.params.args.map (·.arg)) ds vs) := by
  intro M A E Q hq
  obtain ⟨h1, h2, h3, h4⟩ := hp
  unfold bndOk at ok
  simp only [Bool.and_eq_true, decide_eq_true_eq] at ok
  obtain ⟨⟨o1, o2⟩, o3⟩ := ok
  have D : ∀ {Q' : Option (Array Value) → Shared → Prop}, (∀ o : Option (Array Value), (o.getD #[]).toList = ds → Q' o s) → wpAny M A (seqItems? fd.defaults) Q' E s := by
    intro Q' hQ'
    rcases hd with ⟨e, rfl⟩ | ⟨T, o, n, e, ho, hs⟩
    · rw [e]; exact wpAny_pure (hQ' none rfl)
    · rw [e]; exact wpAny_seqItems ho hs (hQ' _ (by simp))
  unfold bindArgs
  simp only [h1, h2, h3, h4, List.map_nil, List.nil_append, List.append_nil, List.forIn_nil, pure_bind]
  refine wpAny_bind (D fun o ho => ?_)
  simp only [ho]
  have e0 : ds.length - (fd.params.args.map (·.arg)).length = 0 := by omega
  rw [e0, List.drop_zero]
  rw [if_neg (by simp only [Option.isNone_none, Bool.and_true, decide_eq_true_eq]; omega)]
  rw [if_neg (by rw [o3]; decide)]
  rw [forIn_fold (fun sl p => if (sl.lookup p.1).isNone then sl ++ [(p.1, p.2)] else sl) (fun x c => by
    obtain ⟨a, b⟩ := x
    dsimp only
    split <;> rfl)]
  simp only [pure_bind, List.isEmpty_nil, Bool.not_true, Bool.false_eq_true, if_false]
  exact wpAny_pure hq

/-- two lists of bindings that go together -/
inductive RL (K : Frag) (φ : Phi) (N : Led) : List (Str × GV) → List (Str × Value) → Prop
  | nil : RL K φ N [] []
  | cons {x : Str} {g : GV} {v : Value} {l : List (Str × GV)} {l' : List (Str × Value)} : V K φ N g v → RL K φ N l l' → RL K φ N ((x, g) :: l) ((x, v) :: l')
section
variable {K : Frag} {φ : Phi} {N : Led}
theorem RL.look {l : List (Str × GV)} {l' : List (Str × Value)} (h : RL K φ N l l') (x : Str) : (l.lookup x = none ∧ l'.lookup x = none) ∨ ∃ g v, l.lookup x = some g ∧ l'.lookup x = some v ∧ V K φ N g v := by
  induction h with
  | nil => exact .inl ⟨rfl, rfl⟩
  | @cons y g v l l' hv _ ih =>
    rw [List.lookup_cons, List.lookup_cons]
    cases x == y with
    | true => exact .inr ⟨g, v, rfl, rfl, hv⟩
    | false => exact ih
theorem RL.append {l m : List (Str × GV)} {l' m' : List (Str × Value)} (h : RL K φ N l l') (k : RL K φ N m m') : RL K φ N (l ++ m) (l' ++ m') := by
  induction h with
  | nil => exact k
  | cons hv _ ih => exact .cons hv ih
theorem RL.zip : ∀ (ns : List Str) {gs : List GV} {vs : List Value}, Vs K φ N gs vs → RL K φ N (ns.zip gs) (ns.zip vs)
  | [], _, _, _ => .nil
  | _ :: _, [], _, h => by simp only [Vs] at h; subst h; exact .nil
  | n :: ns, g :: gs, _, h => by
    simp only [Vs] at h
    obtain ⟨v, r, rfl, h1, h2⟩ := h
    exact .cons h1 (RL.zip ns h2)
theorem RL.fold {d : List (Str × GV)} {d' : List (Str × Value)} (hd : RL K φ N d d') : ∀ {l : List (Str × GV)} {l' : List (Str × Value)}, RL K φ N l l' →
    RL K φ N (d.foldl (fun sl p => if (sl.lookup p.1).isNone then sl ++ [(p.1, p.2)] else sl) l) (d'.foldl (fun sl p => if (sl.lookup p.1).isNone then sl ++ [(p.1, p.2)] else sl) l') := by
  induction hd with
  | nil => intro l l' h; exact h
  | @cons x g v d d' hv _ ih =>
    intro l l' h
    rw [List.foldl_cons, List.foldl_cons]
    apply ih
    dsimp only
    rcases h.look x with ⟨a, b⟩ | ⟨g', v', a, b, _⟩
    · rw [a, b]; simp only [Option.isNone_none, if_true]; exact h.append (.cons hv .nil)
    · rw [a, b]; simp only [Option.isNone_some, Bool.false_eq_true, if_false]; exact h
theorem RL.slots (ns : List Str) {gd ga : List GV} {ds vs : List Value} (h1 : Vs K φ N gd ds) (h2 : Vs K φ N ga vs) : RL K φ N (slotsOf ns gd ga) (slotsOf ns ds vs) := by
  unfold slotsOf
  rw [h1.length]
  exact RL.fold (RL.zip _ h1) (RL.zip ns h2)
theorem RL.pick {l : List (Str × GV)} {l' : List (Str × Value)} (h : RL K φ N l l') : ∀ ns : List Str, RL K φ N (ns.filterMap fun n => (l.lookup n).map (n, ·)) (ns.filterMap fun n => (l'.lookup n).map (n, ·))
  | [] => .nil
  | n :: ns => by
    rw [List.filterMap_cons, List.filterMap_cons]
    rcases h.look n with ⟨a, b⟩ | ⟨g, v, a, b, c⟩
    · rw [a, b]; exact RL.pick h ns
    · rw [a, b]; exact .cons c (RL.pick h ns)
theorem RL.bnd (ns : List Str) {gd ga : List GV} {ds vs : List Value} (h1 : Vs K φ N gd ds) (h2 : Vs K φ N ga vs) : RL K φ N (bnd ns gd ga) (bnd ns ds vs) := RL.pick (RL.slots ns h1 h2) ns
theorem bndOk_eq (ns : List Str) {gd ga : List GV} {ds vs : List Value} (h1 : Vs K φ N gd ds) (h2 : Vs K φ N ga vs) : bndOk ns ds vs = bndOk ns gd ga := by
  unfold bndOk
  rw [h1.length, h2.length]
  have : (fun n => ((ns.zip vs).lookup n).isNone) = fun n => ((ns.zip ga).lookup n).isNone := by
    funext n
    rcases (RL.zip ns h2).look n with ⟨a, b⟩ | ⟨_, _, a, b, _⟩ <;> rw [a, b] <;> rfl
  rw [this]
end
theorem bnd_keys {α : Type} (ns : List Str) (ds vs : List α) : ((bnd ns ds vs).map (·.1)).Sublist ns := by
  unfold bnd
  generalize slotsOf ns ds vs = sl
  induction ns with
  | nil => exact .slnil
  | cons n ns ih =>
    rw [List.filterMap_cons]
    cases sl.lookup n with
    | none => exact ih.cons _
    | some v => exact ih.cons_cons _
theorem lookup_reverse {α : Type} : ∀ {l : List (Str × α)}, (l.map (·.1)).Nodup → ∀ x, l.reverse.lookup x = l.lookup x
  | [], _, _ => rfl
  | p :: l, nd, x => by
    rw [List.map_cons, List.nodup_cons] at nd
    rw [List.reverse_cons, List.lookup_append, lookup_reverse nd.2 x]
    obtain ⟨y, a⟩ := p
    rw [List.lookup_cons, List.lookup_cons, List.lookup_nil]
    cases q : x == y with
    | false => rw [Option.or_none]
    | true =>
      have e : x = y := beq_iff_eq.mp q
      subst e
      have : l.lookup x = none := by
        rw [List.lookup_eq_none_iff]
        intro p hp
        rw [bne_iff_ne]
        intro e
        exact nd.1 (List.mem_map.mpr ⟨p, hp, e.symm⟩)
      rw [this]; rfl
end Mine
end

section
set_option maxRecDepth 100000
set_option autoImplicit false
set_option tactic.hygienic false
namespace Mine
open PySem PySem.W PySem.Calls PyProof.Rows

/-- where a frame of the text's stands -/
structure CX (K : Frag) (A : Around) (h₀ : Heap) (env : Env) (sc : Scope) (n : Nat) : Prop where
  envE : ∃ cn a cd, env = envX cn sc env.locals a cd []
  kind : sc.kind = .function
  dbg : sc.names.lookup ("__debug__" : Str) = none
  below : ∃ A₀ base outer, Below A₀ base outer h₀ ∧ A.frames = some (env :: outer)
  kin : K.In h₀
  top : ∃ p loose mg mb, TopRead p loose mg mb h₀
  hand : A.handled = none
  depth : A.depth + 2 * n < recursionLimit
  units : A.units + 8 * n + 200 < cLine
theorem CX.less {K : Frag} {A : Around} {h₀ : Heap} {env : Env} {sc : Scope} {n k : Nat} (C : CX K A h₀ env sc n) (h : k ≤ n) : CX K A h₀ env sc k :=
  ⟨C.envE, C.kind, C.dbg, C.below, C.kin, C.top, C.hand, by have := C.depth; omega, by have := C.units; omega⟩

/-- what is known of a def of the text -/
structure FI where
  ns : List Str
  ds : List GV
  body : List Stmt
  scope : Scope
structure FnOK (K : Frag) (f : Nat) (fi : FI) : Prop where
  ex : ∃ oc od osl name qual params dV kV doc pm an cdv ct, K.lookup f = some ⟨oc, od, .func (fnX name qual params fi.body fi.scope [] dV kV doc pm an cdv ct), osl⟩ ∧ codeIn K cdv qual = true ∧ PlainParams params ∧ params.args.map (·.arg) = fi.ns ∧
    ((dV = .none ∧ fi.ds = []) ∨ ∃ t c dd vs n sl, dV = .ref t ∧ K.lookup t = some ⟨c, dd, .seq vs.toArray n, sl⟩ ∧ ∀ φ N, Vs K φ N fi.ds vs)
  isf : keepIn K (.ref f) = true
  cell : ∀ x ∈ fi.scope.names, x.2 ≠ .cell
  co : fi.scope.isCoroutine = false
  gen : fi.scope.isGenerator = false
  kind : fi.scope.kind = .function
  loc : ∀ x ∈ fi.ns, fi.scope.names.lookup x = some .local
  nd : fi.ns.Nodup
  dbg : fi.scope.names.lookup ("__debug__" : Str) = none

section
variable {prog : Program} {w : World} {A : Around} {E : Value → Shared → Prop} {s : Shared} {K : Frag} {h₀ : Heap} {loc : Loc} {ah : AH} {φ : Phi} {N : Led} {m : Str → Option Value} {env : Env} {sc : Scope} {n : Nat}

/-- a call of a def: the body is walked in a frame of its own -/
theorem r_code (C : CX K A h₀ env sc (n + 1)) (I : Li K w.params h₀ env.locals loc ah φ N m s.heap) {f : Nat} {fi : FI} (fo : FnOK K f fi) {ga : List GV} {vs : List Value} (ha : Vs K φ N ga vs) (ok : bndOk fi.ns fi.ds ga = true)
    {R : Result → Shared → Prop} {A' : Around} (hA1 : A'.frames = A.frames) (hA2 : A'.handled = none) (hA3 : A'.depth ≤ A.depth + 1) (hA4 : A'.units ≤ A.units + 1)
    (body : ∀ g env' h₁ m' tk, CX K (A'.deeper env') g env' fi.scope n → Li K w.params g env'.locals (bnd fi.ns fi.ds ga) ah φ N m' h₁ →
      wpAny (model prog w) (A'.deeper env') (execs fi.body env')
        (fun fl s' => ∃ φ' ah' N' m'' h' tk' loc', s' = ⟨h', s.gens, s.drawn, tk', s.os⟩ ∧ Li K w.params g env'.locals loc' ah' φ' N' m'' h' ∧ Ext φ ah N φ' ah' N' ∧
          (Li K w.params h₀ env.locals loc ah' φ' N' m h' → R (.ok (.ret (match fl with | .ret v => v | _ => .none))) s')) (fun _ _ => False) ⟨h₁, s.gens, s.drawn, tk, s.os⟩) :
    codeAny (model prog w) A' (.call (.ref f) ⟨vs, []⟩) R s := by
  obtain ⟨oc, od, osl, name, qual, params, dV, kV, doc, pm, an, cdv, ct, ho, hcd, hp, hn, hd⟩ := fo.ex
  obtain ⟨cn, aa, cd, henv⟩ := C.envE
  obtain ⟨A₀, base, outer, B, hfr⟩ := C.below
  obtain ⟨p, loose, mg, mb, T⟩ := C.top
  have X := C.kin.keeps I.fr.keep
  have hf : env.frame = some env.locals := by rw [henv]
  have hke : env.scope.kind = .function := by rw [henv]; exact C.kind
  have hds : ∃ ds : List Value, Vs K φ N fi.ds ds ∧ ((dV = .none ∧ ds = []) ∨ ∃ T o n, dV = .ref T ∧ s.heap.get? T = some o ∧ o.data = .seq ds.toArray n) := by
    rcases hd with ⟨e1, e2⟩ | ⟨t, c, dd, ws, k, sl, e1, e2, e3⟩
    · exact ⟨[], by rw [e2]; exact rfl, .inl ⟨e1, rfl⟩⟩
    · exact ⟨ws, e3 φ N, .inr ⟨t, _, k, e1, X _ _ e2, rfl⟩⟩
  obtain ⟨ds, hds, hds'⟩ := hds
  have hb := binds_plain (s := s) (fd := fnX name qual params fi.body fi.scope [] dV kV doc pm an cdv ct) (vs := vs) (ds := ds) hp (by rw [show (fnX name qual params fi.body fi.scope [] dV kV doc pm an cdv ct).params.args.map (·.arg) = fi.ns from hn, bndOk_eq fi.ns hds ha]; exact ok) hds'
  rw [show (fnX name qual params fi.body fi.scope [] dV kV doc pm an cdv ct).params.args.map (·.arg) = fi.ns from hn] at hb
  have hkeys := bnd_keys fi.ns ds vs
  have hA : A'.frames = some (env :: outer) := hA1.trans hfr
  have hd1 := C.depth
  have hu1 := C.units
  refine callX_plain (cl := []) B I.fr I.nw T.nolimit hA hf hke (X _ _ ho) rfl (codeRec_of X hcd) (by omega) hb (fun y hy => fo.loc _ (hkeys.subset (List.mem_map.mpr ⟨y, hy, rfl⟩))) (fun g L' h₁ FG F' N' B' st lt => ?_) fo.cell fo.co fo.gen fo.kind
  have hdp : (A'.deeper (envX qual fi.scope L' f cdv [])).depth = A'.depth + 1 := rfl
  have hup : (A'.deeper (envX qual fi.scope L' f cdv [])).units = A'.units + 3 := rfl
  have C' : CX K (A'.deeper (envX qual fi.scope L' f cdv [])) g (envX qual fi.scope L' f cdv []) fi.scope n :=
    ⟨⟨qual, f, cdv, rfl⟩, fo.kind, fo.dbg, ⟨A', base, env :: outer, ⟨hA, B'.stays, B'.frames⟩, by show A'.frames.map _ = _; rw [hA]; rfl⟩, C.kin.keeps st, ⟨p, loose, mg, mb, T.keeps st⟩, hA2, by omega, by omega⟩
  have I' : Li K w.params g (envX qual fi.scope L' f cdv []).locals (bnd fi.ns fi.ds ga) ah φ N (fun y => (bnd fi.ns ds vs).reverse.lookup y) h₁ := by
    refine ⟨F', N', I.hr, fun x gx hx => ?_⟩
    rw [lookup_reverse (hkeys.nodup fo.nd) x]
    rcases (RL.bnd fi.ns hds ha).look x with ⟨a, _⟩ | ⟨g', v, a, b, c⟩
    · rw [a] at hx; cases hx
    · rw [a] at hx; cases hx; exact ⟨v, b, c⟩
  refine wpAny_mono (body g _ h₁ _ _ C' I') (fun fl s' z => ?_) fun _ _ z => z.elim
  obtain ⟨φ', ah', N'', m'', h', tk', loc', rfl, I'', X', k⟩ := z
  exact ⟨_, _, N'', I''.fr, I''.nw, fun F2 N2 => k ⟨F2, N2, I''.hr, I.lc.stay (X'.stay I.hr)⟩⟩
end
end Mine
end

section
set_option maxRecDepth 100000
set_option autoImplicit false
set_option tactic.hygienic false
namespace Mine
open PySem PySem.W PySem.Calls PyProof.Rows

mutual
/-- a value that data say: nothing in it changes -/
noncomputable def flatG : GV → Nat → Bool
  | .none, _ => true
  | .bool _, _ => true
  | .int _, _ => true
  | .str x, _ => PyData.strOk x
  | .tup xs, k => match k with
    | 0 => false
    | k + 1 => flatL xs k
  | .obj _, _ => false
  | .fn _, _ => false
  | .cls _, _ => false
  | .bi _, _ => false
  | .ty _, _ => false
noncomputable def flatL : List GV → Nat → Bool
  | [], _ => true
  | x :: xs, k => flatG x k && flatL xs k
end
mutual
noncomputable def dat : GV → PyData
  | .none => .none
  | .bool b => .bool b
  | .int i => .int i
  | .str x => .str x
  | .tup xs => .tuple (datL xs)
  | .obj _ => .none
  | .fn _ => .none
  | .cls _ => .none
  | .bi _ => .none
  | .ty _ => .none
noncomputable def datL : List GV → List PyData
  | [] => []
  | x :: xs => dat x :: datL xs
end
section
variable {K : Frag} {h₀ : Heap} {P : Params} {L : Addr} {loc : Loc} {ah : AH} {φ : Phi} {N : Led} {m : Str → Option Value} {s : Shared} {w : World}
mutual
theorem flat_reads (X₀ : K.In h₀) (I : Li K w.params h₀ L loc ah φ N m s.heap) : ∀ (g : GV) (v : Value) (k : Nat), V K φ N g v → flatG g k = true → (∃ as, Reads s.heap v (dat g) as) ∧ (dat g).canLay0 = true ∧ (dat g).depth ≤ k
  | .none, v, k, h, f => by
    simp only [V] at h; subst h; exact ⟨⟨_, .none⟩, rfl, Nat.zero_le _⟩
  | .bool b, v, k, h, f => by
    simp only [V] at h; subst h; exact ⟨⟨_, .bool b⟩, rfl, Nat.zero_le _⟩
  | .int i, v, k, h, f => by
    simp only [V] at h; obtain ⟨t, rfl⟩ := h; exact ⟨⟨_, .int i t⟩, rfl, Nat.zero_le _⟩
  | .str x, v, k, h, f => by
    simp only [V] at h; obtain ⟨t, rfl⟩ := h; exact ⟨⟨_, .str x t⟩, by simpa [dat, PyData.canLay0, flatG] using f, Nat.zero_le _⟩
  | .tup xs, v, k, h, f => by
    obtain ⟨a, vs, rfl, hx, ⟨o, o1, o2, o3⟩⟩ := I.tup X₀ h
    cases k with
    | zero => simp [flatG] at f
    | succ k =>
      simp only [flatG] at f
      obtain ⟨⟨as, r⟩, c, d⟩ := flat_readsL X₀ I xs vs k hx f
      obtain ⟨n, e⟩ := o3
      exact ⟨⟨_, .tuple o1 o2 e r⟩, by simpa [dat, PyData.canLay0] using c, by simp [dat, PyData.depth]; omega⟩
  | .obj _, v, k, h, f => by simp [flatG] at f
  | .fn _, v, k, h, f => by simp [flatG] at f
  | .cls _, v, k, h, f => by simp [flatG] at f
  | .bi _, v, k, h, f => by simp [flatG] at f
  | .ty _, v, k, h, f => by simp [flatG] at f
theorem flat_readsL (X₀ : K.In h₀) (I : Li K w.params h₀ L loc ah φ N m s.heap) : ∀ (g : List GV) (v : List Value) (k : Nat), Vs K φ N g v → flatL g k = true → (∃ as, ReadsAll s.heap v (datL g) as) ∧ PyData.canLayAll0 (datL g) = true ∧ PyData.depthAll (datL g) ≤ k
  | [], v, k, h, f => by
    simp only [Vs] at h; subst h; exact ⟨⟨_, .nil⟩, rfl, Nat.zero_le _⟩
  | x :: xs, v, k, h, f => by
    simp only [Vs] at h
    obtain ⟨a, r, rfl, h1, h2⟩ := h
    simp only [flatL, Bool.and_eq_true] at f
    obtain ⟨⟨as, p1⟩, p2, p3⟩ := flat_reads X₀ I x a k h1 f.1
    obtain ⟨⟨bs, q1⟩, q2, q3⟩ := flat_readsL X₀ I xs r k h2 f.2
    exact ⟨⟨_, .cons p1 q1⟩, by simp [datL, PyData.canLayAll0, p2, q2], by simp [datL, PyData.depthAll]; omega⟩
end
end
end Mine
end

section
set_option maxRecDepth 100000
set_option autoImplicit false
set_option tactic.hygienic false
namespace Mine
open PySem PySem.W PySem.Calls PyProof.Rows

/-- a flow's end, abstract -/
inductive Fl where
  | nxt
  | brk
  | ret (g : GV)

/-- a hint at a place where the data decide -/
inductive H where
  | a
  | t
  | f
  | v (g : GV)
  | l (xs : List GV) (g : GV)
  | o (ao : AO)
  | m (b : Bool)
  | p (q : Rg)
  | q (q : Rg) (i : Nat)
  | c (f : Nat) (g : GV) (ah : AH)
  | e (g : GV) (ah : AH)
  | w (fl : Fl) (loc : Loc) (ah : AH)
  | i (j : Int)

structure St where
  loc : Loc
  ah : AH
  hs : List H

/-- what a hint may say of a call, an expression, a statement -/
structure Orc where
  call : Nat → List GV → AH → GV → AH → Prop
  expr : Scope → Expr → Loc → AH → GV → AH → Prop
  stmt : Scope → Stmt → Loc → AH → Fl → Loc → AH → Prop

noncomputable abbrev R (α : Type) := Option (List Prop × α × St)
noncomputable def rp {α : Type} (x : α) (st : St) : R α := some ([], x, st)
noncomputable def rb {α β : Type} (x : R α) (f : α → St → R β) : R β := match x with
  | none => none
  | some (c, a, st) => match f a st with
    | none => none
    | some (c', b, st') => some (c ++ c', b, st')

structure Pr where
  fns : List (Nat × FI)
  cls : List (Nat × CI)
  glob : List (Str × GV)

/-- what may or may not be there -/
noncomputable def getO {α : Type} (x : Option α) (st : St) : R α := match x with
  | some o => some ([], o, st)
  | none => none
noncomputable def hintB : List H → Option (Option Bool × List H)
  | [] => none
  | h :: r => match h with
    | .t => some (some true, r)
    | .f => some (some false, r)
    | .a => some (none, r)
    | _ => none
noncomputable def sure (b : Bool) (st : St) : R Bool := match b with
  | true => some ([], true, st)
  | false => some ([], false, st)
/-- a test: decided by the evaluation, or by a hint that is to be shown -/
noncomputable def ask (b : Bool) (st : St) : R Bool := match hintB st.hs with
  | some q => match q.1 with
    | some v => some ([b = v], v, ⟨st.loc, st.ah, q.2⟩)
    | none => sure b ⟨st.loc, st.ah, q.2⟩
  | none => sure b st

noncomputable def hintO : List H → Option (AO × List H)
  | [] => none
  | h :: r => match h with
    | .o ao => some (ao, r)
    | _ => none
noncomputable def derefN (i : Nat) (st : St) : R AO := match hintO st.hs with
  | some q => some ([st.ah.n[i]? = some q.1], q.1, ⟨st.loc, st.ah, q.2⟩)
  | none => getO st.ah.n[i]? st
noncomputable def derefD (i : Nat) (st : St) : R AO := match hintO st.hs with
  | some q => some ([st.ah.d[i]? = some q.1], q.1, ⟨st.loc, st.ah, q.2⟩)
  | none => none
/-- an object -/
noncomputable def deref (r : Rf) (st : St) : R AO := match r with
  | .c i => getO st.ah.c[i]? st
  | .n i => derefN i st
  | .d i => derefD i st

/-- an item of a list at a place -/
noncomputable def hintV : List H → Option (GV × List H)
  | [] => none
  | h :: r => match h with
    | .v g => some (g, r)
    | _ => none
noncomputable def nth (xs : List GV) (i : Nat) (st : St) : R GV := match hintV st.hs with
  | some q => some ([xs[i]? = some q.1], q.1, ⟨st.loc, st.ah, q.2⟩)
  | none => getO xs[i]? st

/-- a list parted before its last item -/
noncomputable def unsnoc : List GV → Option (List GV × GV)
  | [] => none
  | x :: r => match unsnoc r with
    | none => some ([], x)
    | some (p, y) => some (x :: p, y)
noncomputable def hintL : List H → Option ((List GV × GV) × List H)
  | [] => none
  | h :: r => match h with
    | .l ys g => some ((ys, g), r)
    | _ => none
noncomputable def lastOf (xs : List GV) (st : St) : R (List GV × GV) := match hintL st.hs with
  | some q => some ([xs = q.1.1 ++ [q.1.2]], q.1, ⟨st.loc, st.ah, q.2⟩)
  | none => getO (unsnoc xs) st

noncomputable def need (p : Prop) (st : St) : R Unit := some ([p], (), st)

noncomputable def isSuperCall : Expr → Bool
  | .Call (.Name id _) [] [] _ => id == ("super" : Str)
  | _ => false

structure Rc where
  ev : Scope → Expr → St → R GV
  ts : Scope → Expr → St → R Bool
  ex : Scope → List Stmt → St → R Fl
  cl : Nat → List GV → St → R GV
  wh : Scope → Expr → List Stmt → St → R Fl

noncomputable def isStar (e : Expr) : Bool := Nat.beq e.ctorIdx 22
noncomputable def evL (ev : Expr → St → R GV) : List Expr → St → R (List GV)
  | [], st => rp [] st
  | e :: es, st => match isStar e with
    | true => none
    | false => rb (ev e st) fun g st => rb (evL ev es st) fun gs st => rp (g :: gs) st

noncomputable def memI (x : Int) : List GV → Option Bool
  | [] => some false
  | .int y :: r => match memI x r with
    | some b => some ((y == x) || b)
    | none => none
  | _ :: _ => none

noncomputable def hintMb : List H → Option (Bool × List H)
  | [] => none
  | h :: r => match h with
    | .m b => some (b, r)
    | _ => none
/-- an int in a list -/
noncomputable def mem (x : Int) (xs : List GV) (st : St) : R Bool := match hintMb st.hs with
  | some q => some ([memI x xs = some q.1], q.1, ⟨st.loc, st.ah, q.2⟩)
  | none => getO (memI x xs) st
/-- two lists that are alike, or one list and the empty one -/
noncomputable def hintM : List H → Option (List H)
  | [] => none
  | h :: r => match h with
    | .m b => match b with
      | true => some r
      | false => none
    | _ => none
noncomputable def neL2 (xs ys : List GV) (st : St) : R Bool := match hintM st.hs with
  | some r => some ([xs = ys ∧ flatL xs 50 = true], false, ⟨st.loc, st.ah, r⟩)
  | none => match ys with
    | [] => rp (!xs.isEmpty) st
    | _ :: _ => none
noncomputable def neL (o o2 : AO) (st : St) : R Bool := match o with
  | .list xs => match o2 with
    | .list ys => neL2 xs ys st
    | _ => none
  | _ => none
noncomputable def cmp.strs? : List GV → Option (List Str)
  | [] => some []
  | .str x :: r => (cmp.strs? r).map (x :: ·)
  | _ => none
noncomputable def str2 : List GV → Option (Str × Str)
  | [] => none
  | a :: r => match a with
    | .str x => match r with
      | [] => none
      | b :: r => match b with
        | .str y => match r with
          | [] => some (x, y)
          | _ :: _ => none
        | _ => none
    | _ => none
noncomputable def cmpI (f : Int → Int → Bool) (a b : GV) (st : St) : R Bool := match a with
  | .int i => match b with
    | .int j => rp (f i j) st
    | _ => none
  | _ => none
noncomputable def cmpS (f : Str → Str → Bool) (x : Str) (b : GV) (st : St) : R Bool := match b with
  | .str y => rp (f x y) st
  | _ => none
noncomputable def eqT (xs : List GV) (b : GV) (st : St) : R Bool := match b with
  | .tup ys => match str2 xs with
    | some p => match str2 ys with
      | some q => match PyData.strOk q.1 && PyData.strOk q.2 with
        | true => rb (need (PyData.strOk p.1 = true ∧ PyData.strOk p.2 = true) st) fun _ st => rp (p.1 == q.1 && p.2 == q.2) st
        | false => none
      | none => none
    | none => none
  | _ => none
noncomputable def cmpEq (a b : GV) (st : St) : R Bool := match a with
  | .int i => cmpI (fun i j => i == j) (.int i) b st
  | .str x => cmpS (fun x y => x == y) x b st
  | .tup xs => eqT xs b st
  | _ => none
noncomputable def neT (xs : List GV) (b : GV) (st : St) : R Bool := match b with
  | .tup ys => rb (need (xs = ys ∧ flatL xs 50 = true) st) fun _ st => rp false st
  | _ => none
noncomputable def neO (r : Rf) (b : GV) (st : St) : R Bool := match b with
  | .obj r2 => rb (deref r st) fun o st => rb (deref r2 st) fun o2 st => neL o o2 st
  | _ => none
noncomputable def cmpNe (a b : GV) (st : St) : R Bool := match a with
  | .int i => cmpI (fun i j => i != j) (.int i) b st
  | .str x => cmpS (fun x y => x != y) x b st
  | .tup xs => neT xs b st
  | .obj r => neO r b st
  | _ => none
noncomputable def cmpLe (a b : GV) (st : St) : R Bool := match a with
  | .int i => cmpI (fun i j => decide (i ≤ j)) (.int i) b st
  | .str x => cmpS (fun x y => !(decide (y.cps.toList < x.cps.toList))) x b st
  | _ => none
noncomputable def cmpIs (v : Bool) (a b : GV) (st : St) : R Bool := match b with
  | .none => match a with
    | .none => rp v st
    | .obj _ => rp (!v) st
    | _ => none
  | _ => none
noncomputable def sgn (v b : Bool) : Bool := match v with
  | true => b
  | false => !b
noncomputable def inT (v : Bool) (x : Str) (ys : List GV) (st : St) : R Bool := match cmp.strs? ys with
  | some l => rp (sgn v (l.any (x == ·))) st
  | none => none
noncomputable def inD (v : Bool) (x : Str) (r : Rf) (st : St) : R Bool := rb (deref r st) fun o st => match o with
  | .dict ks => rp (sgn v (ks.lookup x).isSome) st
  | _ => none
noncomputable def inS (v : Bool) (x : Str) (b : GV) (st : St) : R Bool := match b with
  | .tup ys => inT v x ys st
  | .obj r => inD v x r st
  | _ => none
noncomputable def inL (x : Int) (o : AO) (st : St) : R Bool := match o with
  | .dict ks => match ks with
    | [] => rp false st
    | _ :: _ => none
  | .list xs => mem x xs st
  | _ => none
noncomputable def inI (x : Int) (b : GV) (st : St) : R Bool := match b with
  | .obj r => rb (deref r st) fun o st => inL x o st
  | _ => none
noncomputable def cmpIn (a b : GV) (st : St) : R Bool := match a with
  | .str x => inS true x b st
  | .int x => inI x b st
  | _ => none
noncomputable def cmpNin (a b : GV) (st : St) : R Bool := match a with
  | .str x => inS false x b st
  | _ => none
/-- one comparison -/
noncomputable def cmp (op : CmpOp) (a b : GV) (st : St) : R Bool := match op with
  | .Eq => cmpEq a b st
  | .NotEq => cmpNe a b st
  | .Lt => cmpI (fun i j => decide (i < j)) a b st
  | .LtE => cmpLe a b st
  | .Gt => cmpI (fun i j => decide (j < i)) a b st
  | .GtE => cmpI (fun i j => decide (j ≤ i)) a b st
  | .Is => cmpIs true a b st
  | .IsNot => cmpIs false a b st
  | .In => cmpIn a b st
  | .NotIn => cmpNin a b st

noncomputable def truthyG (g : GV) (st : St) : R Bool := match g with
  | .bool b => rp b st
  | .obj r => rb (deref r st) fun o st => match o with
    | .list xs => rp (!xs.isEmpty) st
    | _ => none
  | _ => none

noncomputable def setAt (r : Rf) (o : AO) (st : St) : St := ⟨st.loc, st.ah.set r o, st.hs⟩
noncomputable def hintP : List H → Option ((Rg × Option Nat) × List H)
  | [] => none
  | h :: r => match h with
    | .p q => some ((q, none), r)
    | .q q i => some ((q, some i), r)
    | _ => none
/-- a new object: a hint says in which part, and its place -/
noncomputable def alloc (o : AO) (st : St) : R Rf := match hintP st.hs with
  | some u => match u.1.2 with
    | none => some ([], st.ah.nx u.1.1, ⟨st.loc, st.ah.push u.1.1 o, u.2⟩)
    | some i => some ([st.ah.nx u.1.1 = u.1.1.rf i], u.1.1.rf i, ⟨st.loc, st.ah.push u.1.1 o, u.2⟩)
  | none => some ([], st.ah.nx .n, ⟨st.loc, st.ah.push .n o, st.hs⟩)

noncomputable def getF (P : Pr) (o : AO) (x : Str) (st : St) : R GV := match o with
  | .inst C fs => match P.cls.lookup C with
    | some ci => match ci.flds.contains x with
      | true => match fs.lookup x with
        | some g => match plainV g with
          | true => rp g st
          | false => none
        | none => none
      | false => none
    | none => none
  | _ => none
noncomputable def getAttrG (P : Pr) (o : GV) (x : Str) (st : St) : R GV := match o with
  | .obj r => rb (deref r st) fun o st => getF P o x st
  | _ => none
noncomputable def setF (P : Pr) (r : Rf) (o : AO) (x : Str) (g : GV) (st : St) : R Unit := match o with
  | .inst C fs => match P.cls.lookup C with
    | some ci => match ci.flds.contains x && Nat.blt fs.length 1000 with
      | true => rp () (setAt r (.inst C (putF x g fs)) st)
      | false => none
    | none => none
  | _ => none
noncomputable def setAttrG (P : Pr) (o : GV) (x : Str) (g : GV) (st : St) : R Unit := match o with
  | .obj r => rb (deref r st) fun o st => setF P r o x g st
  | _ => none

/-- an item read -/
noncomputable def getL (xs : List GV) (j : Int) (st : St) : R GV := match j with
  | .ofNat k => nth xs k st
  | .negSucc k => match k with
    | 0 => rb (lastOf xs st) fun p st => rp p.2 st
    | _ + 1 => none
noncomputable def getLO (o : AO) (j : Int) (st : St) : R GV := match o with
  | .list xs => getL xs j st
  | _ => none
noncomputable def getDO (o : AO) (x : Str) (st : St) : R GV := match o with
  | .dict ks => getO (ks.lookup x) st
  | _ => none
noncomputable def natOf (j : Int) : Option Nat := match j with
  | .ofNat k => match Nat.blt k 1000000 with
    | true => some k
    | false => none
  | .negSucc _ => none
noncomputable def getTu (xs : List GV) (j : Int) (st : St) : R GV := match natOf j with
  | some k => getO xs[k]? st
  | none => none
noncomputable def getS (x : Str) (j : Int) (st : St) : R GV := match natOf j with
  | some k => match x.cps[k]? with
    | some c => rp (.str ⟨#[c]⟩) st
    | none => none
  | none => none
noncomputable def getOb (r : Rf) (i : GV) (st : St) : R GV := match i with
  | .int j => rb (deref r st) fun o st => getLO o j st
  | .str x => rb (deref r st) fun o st => getDO o x st
  | _ => none
noncomputable def getItemG (o i : GV) (st : St) : R GV := match o with
  | .obj r => getOb r i st
  | .tup xs => match i with
    | .int j => getTu xs j st
    | _ => none
  | .str x => match i with
    | .int j => getS x j st
    | _ => none
  | _ => none
noncomputable def setLO (r : Rf) (o : AO) (j : Int) (g : GV) (st : St) : R Unit := match o with
  | .list xs => match j with
    | .ofNat k => rb (need (k < xs.length) st) fun _ st => rp () (setAt r (.list (xs.set k g)) st)
    | .negSucc _ => none
  | _ => none
noncomputable def setItemG (o i g : GV) (st : St) : R Unit := match o with
  | .obj r => match i with
    | .int j => rb (deref r st) fun o st => setLO r o j g st
    | _ => none
  | _ => none

noncomputable def mPop (r : Rf) (xs : List GV) (name : Str) (st : St) : R GV := match name == ("pop" : Str) with
  | true => rb (lastOf xs st) fun p st => rp p.2 (setAt r (.list p.1) st)
  | false => none
noncomputable def mApp (r : Rf) (xs : List GV) (name : Str) (g : GV) (st : St) : R GV := match name == ("append" : Str) with
  | true => rb (need (xs.length < 1000000) st) fun _ st => rp .none (setAt r (.list (xs ++ [g])) st)
  | false => none
noncomputable def mIns (r : Rf) (xs : List GV) (name : Str) (k g : GV) (st : St) : R GV := match k with
  | .int k => match name == ("insert" : Str) with
    | true => rb (need (xs.length < 1000000) st) fun _ st => rb (need (k = (xs.length : Int)) st) fun _ st => rp .none (setAt r (.list (xs ++ [g])) st)
    | false => none
  | _ => none
/-- a list's methods -/
noncomputable def listMeth (r : Rf) (xs : List GV) (name : Str) (args : List GV) (st : St) : R GV := match args with
  | [] => mPop r xs name st
  | g :: as => match as with
    | [] => mApp r xs name g st
    | g2 :: as => match as with
      | [] => mIns r xs name g g2 st
      | _ :: _ => none

noncomputable def bLen (id : String) (o : AO) (st : St) : R GV := match o with
  | .list xs => match decide (id = "len") with
    | true => rp (.int (Int.ofNat xs.length)) st
    | false => none
  | _ => none
noncomputable def oneC (x : Str) : Option Nat := match x.cps.toList with
  | [] => none
  | c :: r => match r with
    | [] => some c
    | _ :: _ => none
noncomputable def bStr (id : String) (x : Str) (st : St) : R GV := match decide (id = "len") with
  | true => rb (need (x.length ≤ 1000000) st) fun _ st => rp (.int (Int.ofNat x.length)) st
  | false => match decide (id = "ord") with
    | true => match oneC x with
      | some c => rp (.int (Int.ofNat c)) st
      | none => none
    | false => none
noncomputable def bChr (id : String) (i : Int) (st : St) : R GV := match decide (id = "chr") with
  | true => match i with
    | .ofNat k => match Nat.blt k 55296 with
      | true => rp (.str ⟨#[k]⟩) st
      | false => none
    | .negSucc _ => none
  | false => none
noncomputable def biOne (id : String) (g : GV) (st : St) : R GV := match g with
  | .obj r => rb (deref r st) fun o st => bLen id o st
  | .str x => bStr id x st
  | .int i => bChr id i st
  | _ => none
/-- the built-in functions -/
noncomputable def biCall (id : String) (args : List GV) (st : St) : R GV := match args with
  | [] => none
  | g :: r => match r with
    | [] => biOne id g st
    | _ :: _ => none
noncomputable def tList (id : String) (xs : List GV) (st : St) : R GV := match decide (id = "list") with
  | true => match Nat.blt xs.length 1000 with
    | true => rb (alloc (.list xs) st) fun r st => rp (.obj r) st
    | false => none
  | false => none
noncomputable def tTup (id : String) (o : AO) (st : St) : R GV := match o with
  | .list xs => match decide (id = "tuple") with
    | true => rp (.tup xs) st
    | false => none
  | _ => none
noncomputable def tyOne (id : String) (g : GV) (st : St) : R GV := match g with
  | .tup xs => tList id xs st
  | .obj r => rb (deref r st) fun o st => tTup id o st
  | _ => none
/-- the built-in types, called -/
noncomputable def tyCall (id : String) (args : List GV) (st : St) : R GV := match args with
  | [] => none
  | g :: r => match r with
    | [] => tyOne id g st
    | _ :: _ => none

noncomputable def hintI : List H → Option (Int × List H)
  | [] => none
  | h :: r => match h with
    | .i j => some (j, r)
    | _ => none
/-- an int, as a hint writes it -/
noncomputable def nint (i : Int) (st : St) : R GV := match hintI st.hs with
  | some q => some ([i = q.1], .int q.1, ⟨st.loc, st.ah, q.2⟩)
  | none => rp (.int i) st
noncomputable def addG (a b : GV) (st : St) : R GV := match a with
  | .int i => match b with
    | .int j => nint (i + j) st
    | _ => none
  | .str x => match b with
    | .str y => rb (need (x.length + y.length ≤ 1000000) st) fun _ st => rp (.str (x ++ y)) st
    | _ => none
  | _ => none
noncomputable def subG (a b : GV) (st : St) : R GV := match a with
  | .int i => match b with
    | .int j => nint (i - j) st
    | _ => none
  | _ => none
noncomputable def modG (a b : GV) (st : St) : R GV := match a with
  | .int i => match b with
    | .int j => match Int.decEq j 0 with
      | Decidable.isFalse _ => nint (i.fmod j) st
      | Decidable.isTrue _ => none
    | _ => none
  | _ => none
noncomputable def binG (op : Operator) (a b : GV) (st : St) : R GV := match op with
  | .Add => addG a b st
  | .Sub => subG a b st
  | .Mod => modG a b st
  | _ => none

/-- an and, an or: the value -/
noncomputable def boolG (ev : Expr → St → R GV) (isOr : Bool) : List Expr → St → R GV
  | [], _ => none
  | [e], st => ev e st
  | e :: es, st => rb (ev e st) fun g st => rb (truthyG g st) fun b st => rb (ask b st) fun b st => match b, isOr with
    | true, true => rp g st
    | false, false => rp g st
    | _, _ => boolG ev isOr es st
noncomputable def boolT (ts : Expr → St → R Bool) (isOr : Bool) : List Expr → St → R Bool
  | [], st => rp (!isOr) st
  | e :: es, st => rb (ts e st) fun b st => rb (ask b st) fun b st => match b, isOr with
    | true, true => rp true st
    | false, false => rp false st
    | _, _ => boolT ts isOr es st

noncomputable def pairG (ev : Expr → St → R GV) (l : Expr) (op : CmpOp) (r : Expr) (st : St) : R Bool :=
  match behindInMarks op r with
  | true => none
  | false => rb (ev l st) fun a st => rb (ev r st) fun b st => cmp op a b st
noncomputable def chainG (ev : Expr → St → R GV) (l : Expr) (o1 : CmpOp) (r1 : Expr) (o2 : CmpOp) (r2 : Expr) (st : St) : R Bool :=
  match behindInMarks o2 r2 with
  | true => none
  | false => rb (ev l st) fun a st => rb (ev r1 st) fun b st => rb (cmp o1 a b st) fun c st => rb (ask c st) fun c st => match c with
    | true => rb (ev r2 st) fun d st => cmp o2 b d st
    | false => rp false st

noncomputable def noSlice (e : Expr) : Bool := !Nat.beq e.ctorIdx 26
noncomputable def nameG (P : Pr) (sc : Scope) (x : Str) (st : St) : R GV := match sc.names.lookup x with
  | some k => match k with
    | .local => getO (st.loc.lookup x) st
    | .globalImplicit => getO (P.glob.lookup x) st
    | _ => none
  | none => none
/-- keys and values of a display -/
noncomputable def keyOf : Option Expr → Option Str
  | none => none
  | some e => match e with
    | .Constant c _ _ => match c with
      | .str x => some x
      | _ => none
    | _ => none
noncomputable def dictG (ev : Expr → St → R GV) : List (Option Expr) → List Expr → St → R (List (Str × GV))
  | [], [], st => rp [] st
  | [], _ :: _, _ => none
  | _ :: _, [], _ => none
  | k :: ks, v :: vs, st => match keyOf k with
    | some x => rb (ev v st) fun g st => rb (dictG ev ks vs st) fun r st => rp ((x, g) :: r) st
    | none => none

noncomputable def dictMeth.keysOk (ks : List (Str × GV)) : List (Str × GV) → Bool
  | [] => true
  | p :: r => (ks.lookup p.1).isNone && (r.lookup p.1).isNone && dictMeth.keysOk ks r
noncomputable def mUpd (r : Rf) (ks : List (Str × GV)) (o : AO) (st : St) : R GV := match o with
  | .dict more => match (dictMeth.keysOk [] ks && dictMeth.keysOk ks more && !ks.isEmpty) && Nat.blt (ks.length + more.length) 1000 with
    | true => rp .none (setAt r (.dict (ks ++ more)) st)
    | false => none
  | _ => none
noncomputable def mDict (r : Rf) (ks : List (Str × GV)) (name : Str) (g : GV) (st : St) : R GV := match g with
  | .obj r2 => match name == ("update" : Str) with
    | true => rb (deref r2 st) fun o st => mUpd r ks o st
    | false => none
  | _ => none
/-- one dict into another, no key in both -/
noncomputable def dictMeth (r : Rf) (ks : List (Str × GV)) (name : Str) (args : List GV) (st : St) : R GV := match args with
  | [] => none
  | g :: as => match as with
    | [] => mDict r ks name g st
    | _ :: _ => none

noncomputable def clsCall (P : Pr) (rc : Rc) (C : Nat) (fi : Nat) (gs : List GV) (st : St) : R GV :=
  rb (alloc (.inst C []) st) fun r st => rb (rc.cl fi (.obj r :: gs) st) fun v st => match v with
    | .none => rp (.obj r) st
    | _ => none
noncomputable def initOf (P : Pr) (C : Nat) : Option Nat := match P.cls.lookup C with
  | some ci => ci.init
  | none => none
noncomputable def callV (P : Pr) (rc : Rc) (sc : Scope) (v : GV) (args : List Expr) (st : St) : R GV := match v with
  | .fn a => rb (evL (rc.ev sc) args st) fun gs st => rc.cl a gs st
  | .bi id => rb (evL (rc.ev sc) args st) fun gs st => biCall id gs st
  | .ty id => rb (evL (rc.ev sc) args st) fun gs st => tyCall id gs st
  | .cls C => match initOf P C with
    | some fi => rb (evL (rc.ev sc) args st) fun gs st => clsCall P rc C fi gs st
    | none => none
  | _ => none
noncomputable def callFn (P : Pr) (rc : Rc) (sc : Scope) (f : Expr) (args : List Expr) (st : St) : R GV := match Nat.blt args.length 20 with
  | false => none
  | true => rb (rc.ev sc f st) fun v st => callV P rc sc v args st
noncomputable def methOf (P : Pr) (C : Nat) (fs : List (Str × GV)) (x : Str) : Option Nat := match P.cls.lookup C with
  | some ci => match fs.lookup x with
    | none => ci.meths.lookup x
    | some _ => none
  | none => none
noncomputable def lMeth (r : Rf) (x : Str) (gs : List GV) (o : AO) (st : St) : R GV := match o with
  | .list xs => listMeth r xs x gs st
  | _ => none
noncomputable def dMeth (r : Rf) (x : Str) (gs : List GV) (o : AO) (st : St) : R GV := match o with
  | .dict ks => dictMeth r ks x gs st
  | _ => none
noncomputable def callM (P : Pr) (rc : Rc) (sc : Scope) (r : Rf) (x : Str) (args : List Expr) (o : AO) (st : St) : R GV := match o with
  | .inst C fs => match methOf P C fs x with
    | some m => rb (evL (rc.ev sc) args st) fun gs st => rc.cl m (.obj r :: gs) st
    | none => none
  | .list _ => rb (evL (rc.ev sc) args st) fun gs st => rb (deref r st) fun ob st => lMeth r x gs ob st
  | .dict _ => rb (evL (rc.ev sc) args st) fun gs st => rb (deref r st) fun ob st => dMeth r x gs ob st
noncomputable def callO (P : Pr) (rc : Rc) (sc : Scope) (v : GV) (x : Str) (args : List Expr) (st : St) : R GV := match v with
  | .obj r => rb (deref r st) fun ob st => callM P rc sc r x args ob st
  | _ => none
noncomputable def callAt (P : Pr) (rc : Rc) (sc : Scope) (o : Expr) (x : Str) (apos : Pos) (args : List Expr) (pos : Pos) (st : St) : R GV := match (!isSuperCall o) && (Nat.blt args.length 20 && apos.endLine == pos.line) with
  | true => rb (rc.ev sc o st) fun v st => callO P rc sc v x args st
  | false => none
noncomputable def callG (P : Pr) (rc : Rc) (sc : Scope) (f : Expr) (args : List Expr) (pos : Pos) (st : St) : R GV := match f with
  | .Attribute o x apos => callAt P rc sc o x apos args pos st
  | f => callFn P rc sc f args st

/-- calls that a hint answers -/
noncomputable def isOracle (e : Expr) : Bool := match e with
  | .Name x _ => x == ("sorted" : Str)
  | .Attribute o x _ => Nat.beq o.ctorIdx 19 || Nat.beq o.ctorIdx 16 || x == ("index" : Str)
  | _ => false
noncomputable def hintE : List H → Option (GV × AH × List H)
  | [] => none
  | h :: r => match h with
    | .e g ah => some (g, ah, r)
    | _ => none
noncomputable def orE (O : Orc) (sc : Scope) (e : Expr) (st : St) : R GV := match hintE st.hs with
  | some q => some ([O.expr sc e st.loc st.ah q.1 q.2.1], q.1, ⟨st.loc, q.2.1, q.2.2⟩)
  | none => none
noncomputable def evCall (P : Pr) (rc : Rc) (sc : Scope) (f : Expr) (args : List Expr) (kws : List Keyword) (pos : Pos) (st : St) : R GV := match kws with
  | _ :: _ => none
  | [] => callG P rc sc f args pos st
noncomputable def evCallO (P : Pr) (O : Orc) (rc : Rc) (sc : Scope) (f : Expr) (args : List Expr) (kws : List Keyword) (pos : Pos) (st : St) : R GV := match hintE st.hs with
  | some q => match isOracle f with
    | true => some ([O.expr sc (.Call f args kws pos) st.loc st.ah q.1 q.2.1], q.1, ⟨st.loc, q.2.1, q.2.2⟩)
    | false => evCall P rc sc f args kws pos st
  | none => evCall P rc sc f args kws pos st
noncomputable def evIf (rc : Rc) (sc : Scope) (t b o : Expr) (st : St) : R GV := rb (rc.ts sc t st) fun c st => rb (ask c st) fun c st => match c with
  | true => rc.ev sc b st
  | false => rc.ev sc o st
noncomputable def evIfO (O : Orc) (rc : Rc) (sc : Scope) (t b o : Expr) (pos : Pos) (st : St) : R GV := match hintE st.hs with
  | some q => some ([O.expr sc (.IfExp t b o pos) st.loc st.ah q.1 q.2.1], q.1, ⟨st.loc, q.2.1, q.2.2⟩)
  | none => evIf rc sc t b o st
noncomputable def evConst (c : Const) (st : St) : R GV := match c with
  | .none => rp .none st
  | .bool b => rp (.bool b) st
  | .int i => rp (.int i) st
  | .str s => rp (.str s) st
  | _ => none
noncomputable def evAttr (P : Pr) (rc : Rc) (sc : Scope) (o : Expr) (x : Str) (st : St) : R GV := match isSuperCall o with
  | true => none
  | false => rb (rc.ev sc o st) fun v st => getAttrG P v x st
/-- the two sides of a comparison, or the three -/
noncomputable def sides : List CmpOp → List Expr → Option ((CmpOp × Expr) × Option (CmpOp × Expr))
  | [], _ => none
  | _ :: _, [] => none
  | o1 :: os, r1 :: rs => match os with
    | [] => match rs with
      | [] => some ((o1, r1), none)
      | _ :: _ => none
    | o2 :: os => match rs with
      | [] => none
      | r2 :: rs => match os with
        | [] => match rs with
          | [] => some ((o1, r1), some (o2, r2))
          | _ :: _ => none
        | _ :: _ => none
noncomputable def cmpB (rc : Rc) (sc : Scope) (l : Expr) (ops : List CmpOp) (rs : List Expr) (st : St) : R Bool := match sides ops rs with
  | none => none
  | some q => match q.2 with
    | none => pairG (rc.ev sc) l q.1.1 q.1.2 st
    | some u => chainG (rc.ev sc) l q.1.1 q.1.2 u.1 u.2 st
noncomputable def evCmp (rc : Rc) (sc : Scope) (l : Expr) (ops : List CmpOp) (rs : List Expr) (st : St) : R GV := rb (cmpB rc sc l ops rs st) fun b st => rp (.bool b) st
noncomputable def negG (g : GV) (st : St) : R GV := match g with
  | .int i => rp (.int (-i)) st
  | _ => none
noncomputable def evUn (rc : Rc) (sc : Scope) (op : UnaryOp) (x : Expr) (st : St) : R GV := match op with
  | .Not => rb (rc.ev sc x st) fun g st => rb (truthyG g st) fun b st => rp (.bool (!b)) st
  | .USub => rb (rc.ev sc x st) fun g st => negG g st
  | _ => none
noncomputable def evBin (rc : Rc) (sc : Scope) (l : Expr) (op : Operator) (r : Expr) (st : St) : R GV := rb (rc.ev sc l st) fun a st => rb (rc.ev sc r st) fun b st => binG op a b st
noncomputable def evSub (O : Orc) (rc : Rc) (sc : Scope) (e o i : Expr) (st : St) : R GV := match noSlice i with
  | true => rb (rc.ev sc o st) fun v st => rb (rc.ev sc i st) fun j st => getItemG v j st
  | false => orE O sc e st
noncomputable def evTup (rc : Rc) (sc : Scope) (es : List Expr) (st : St) : R GV := match Nat.blt es.length 1000 with
  | true => rb (evL (rc.ev sc) es st) fun gs st => rp (.tup gs) st
  | false => none
noncomputable def evLst (rc : Rc) (sc : Scope) (es : List Expr) (st : St) : R GV := match Nat.blt es.length 1000 with
  | true => rb (evL (rc.ev sc) es st) fun gs st => rb (alloc (.list gs) st) fun r st => rp (.obj r) st
  | false => none
noncomputable def evDict0 (st : St) : R GV := rb (alloc (.dict []) st) fun r st => rp (.obj r) st
noncomputable def mkDict (kvs : List (Str × GV)) (st : St) : R GV := match dictMeth.keysOk [] kvs with
  | true => rb (alloc (.dict kvs) st) fun r st => rp (.obj r) st
  | false => none
noncomputable def evDict1 (rc : Rc) (sc : Scope) (k : Option Expr) (ks : List (Option Expr)) (vs : List Expr) (st : St) : R GV := match Nat.blt ks.length 14 with
  | true => rb (dictG (rc.ev sc) (k :: ks) vs st) fun kvs st => mkDict kvs st
  | false => none
noncomputable def evDict (O : Orc) (rc : Rc) (sc : Scope) (e : Expr) (ks : List (Option Expr)) (vs : List Expr) (st : St) : R GV := match ks with
  | [] => match vs with
    | [] => evDict0 st
    | _ :: _ => orE O sc e st
  | k :: ks => evDict1 rc sc k ks vs st
noncomputable def evS (P : Pr) (O : Orc) (rc : Rc) (sc : Scope) (e : Expr) (st : St) : R GV := match e with
  | .Call f args kws pos => evCallO P O rc sc f args kws pos st
  | .IfExp t b o pos => evIfO O rc sc t b o pos st
  | .Constant c _ _ => evConst c st
  | .Name x _ => nameG P sc x st
  | .Attribute o x _ => evAttr P rc sc o x st
  | .Compare l ops rs _ => evCmp rc sc l ops rs st
  | .BoolOp op es _ => boolG (rc.ev sc) (op == .Or) es st
  | .UnaryOp op x _ => evUn rc sc op x st
  | .BinOp l op r _ => evBin rc sc l op r st
  | .Subscript o i p => evSub O rc sc (.Subscript o i p) o i st
  | .Tuple es _ _ => evTup rc sc es st
  | .List es _ => evLst rc sc es st
  | .Dict ks vs p => evDict O rc sc (.Dict ks vs p) ks vs st
  | e => orE O sc e st

noncomputable def tsPl (rc : Rc) (sc : Scope) (e : Expr) (st : St) : R Bool := rb (rc.ev sc e st) fun g st => truthyG g st
noncomputable def tsUn (rc : Rc) (sc : Scope) (op : UnaryOp) (x : Expr) (p : Pos) (st : St) : R Bool := match op with
  | .Not => rb (rc.ts sc x st) fun b st => rp (!b) st
  | op => tsPl rc sc (.UnaryOp op x p) st
noncomputable def tsS (rc : Rc) (sc : Scope) (e : Expr) (st : St) : R Bool := match e with
  | .UnaryOp op x p => tsUn rc sc op x p st
  | .BoolOp op es _ => boolT (rc.ts sc) (op == .Or) es st
  | .Compare l ops rs _ => cmpB rc sc l ops rs st
  | .IfExp .. => none
  | e => tsPl rc sc e st

noncomputable def isLoc (sc : Scope) (x : Str) : Bool := match sc.names.lookup x with
  | some k => match k with
    | .local => true
    | _ => false
  | none => false
noncomputable def locName (sc : Scope) (e : Expr) : Option Str := match e with
  | .Name x _ => match isLoc sc x with
    | true => some x
    | false => none
  | _ => none
/-- names bound in a row -/
noncomputable def storeNames (sc : Scope) : List Expr → List GV → St → R Unit
  | [], [], st => rp () st
  | [], _ :: _, _ => none
  | _ :: _, [], _ => none
  | e :: es, g :: gs, st => match locName sc e with
    | some x => storeNames sc es gs ⟨(x, g) :: st.loc, st.ah, st.hs⟩
    | none => none
noncomputable def stN (sc : Scope) (x : Str) (g : GV) (st : St) : R Unit := match isLoc sc x with
  | true => rp () ⟨(x, g) :: st.loc, st.ah, st.hs⟩
  | false => none
noncomputable def stS (rc : Rc) (sc : Scope) (o i : Expr) (g : GV) (st : St) : R Unit := match noSlice i with
  | true => rb (rc.ev sc o st) fun v st => rb (rc.ev sc i st) fun j st => setItemG v j g st
  | false => none
noncomputable def stL (sc : Scope) (es : List Expr) (o : AO) (st : St) : R Unit := match o with
  | .list gs => storeNames sc es gs st
  | _ => none
noncomputable def stT (sc : Scope) (es : List Expr) (g : GV) (st : St) : R Unit := match g with
  | .tup gs => storeNames sc es gs st
  | .obj r => rb (deref r st) fun o st => stL sc es o st
  | _ => none
noncomputable def storeG (P : Pr) (rc : Rc) (sc : Scope) (t : Expr) (g : GV) (st : St) : R Unit := match t with
  | .Name x _ => stN sc x g st
  | .Attribute o x _ => rb (rc.ev sc o st) fun v st => setAttrG P v x g st
  | .Subscript o i _ => stS rc sc o i g st
  | .Tuple es _ _ => stT sc es g st
  | _ => none
noncomputable def noComp (e : Expr) : Bool := !(Nat.beq e.ctorIdx 8 || Nat.beq e.ctorIdx 9 || Nat.beq e.ctorIdx 10)
noncomputable def isTup (e : Expr) : Bool := Nat.beq e.ctorIdx 25
noncomputable def isLst (e : Expr) : Bool := Nat.beq e.ctorIdx 24

noncomputable def execL (ex1 : Stmt → St → R Fl) : List Stmt → St → R Fl
  | [], st => rp .nxt st
  | s :: ss, st => rb (ex1 s st) fun fl st => match fl with
    | .nxt => execL ex1 ss st
    | .brk => rp .brk st
    | .ret g => rp (.ret g) st

/-- the turns of a loop over what stands written -/
noncomputable def turnsG (ex : List Stmt → St → R Fl) (x : Str) (body : List Stmt) (chk : AH → List Prop) : List GV → St → R Fl
  | [], st => rp .nxt st
  | g :: gs, st => rb (ex body ⟨(x, g) :: st.loc, st.ah, st.hs⟩) fun fl st => match fl with
    | .nxt => match turnsG ex x body chk gs st with
      | none => none
      | some (c, fl, st') => some (chk st.ah ++ c, fl, st')
    | .brk => rp .nxt st
    | .ret g => rp (.ret g) st
noncomputable def chars : List Nat → List GV
  | [] => []
  | c :: r => .str ⟨#[c]⟩ :: chars r
noncomputable def intsG (a : Int) : Nat → List GV
  | 0 => []
  | n + 1 => .int a :: intsG (a + 1) n

noncomputable def forG.isRange (e : Expr) : Option Expr := match e with
  | .Call f args kws _ => match f with
    | .Name f _ => match f == ("range" : Str) with
      | true => match kws with
        | [] => match args with
          | [] => none
          | e :: r => match r with
            | [] => match isStar e with
              | true => none
              | false => some e
            | _ :: _ => none
        | _ :: _ => none
      | false => none
    | _ => none
  | _ => none
noncomputable def forG.isSet (e : Expr) : Bool := Nat.beq e.ctorIdx 7
noncomputable def rangeOf (P : Pr) (sc : Scope) : Bool := match sc.names.lookup ("range" : Str) with
  | some k => match k with
    | .globalImplicit => match P.glob.lookup ("range" : Str) with
      | some g => match g with
        | .ty id => decide (id = "range")
        | _ => false
      | none => false
    | _ => false
  | none => false
noncomputable def forR (rc : Rc) (sc : Scope) (x : Str) (body : List Stmt) (g : GV) (st : St) : R Fl := match g with
  | .int j => match natOf j with
    | some k => turnsG (rc.ex sc) x body (fun _ => []) (intsG 0 k) st
    | none => none
  | _ => none
noncomputable def forL (rc : Rc) (sc : Scope) (x : Str) (body : List Stmt) (o : AO) (r : Rf) (st : St) : R Fl := match o with
  | .list xs => turnsG (rc.ex sc) x body (fun ah => [ah.get r = some (.list xs)]) xs st
  | _ => none
noncomputable def forV (rc : Rc) (sc : Scope) (x : Str) (body : List Stmt) (g : GV) (st : St) : R Fl := match g with
  | .str s => turnsG (rc.ex sc) x body (fun _ => []) (chars s.cps.toList) st
  | .tup xs => turnsG (rc.ex sc) x body (fun _ => []) xs st
  | .obj r => rb (deref r st) fun o st => forL rc sc x body o r st
  | _ => none
noncomputable def forG (P : Pr) (rc : Rc) (sc : Scope) (x : Str) (iter : Expr) (body : List Stmt) (st : St) : R Fl := match forG.isRange iter with
  | some e => match rangeOf P sc with
    | true => rb (rc.ev sc e st) fun g st => forR rc sc x body g st
    | false => none
  | none => match forG.isSet iter with
    | true => none
    | false => rb (rc.ev sc iter st) fun g st => forV rc sc x body g st

/-- a while -/
noncomputable def whS (rc : Rc) (sc : Scope) (t : Expr) (b : List Stmt) (st : St) : R Fl := rb (rc.ts sc t st) fun c st => rb (ask c st) fun c st => match c with
  | true => rb (rc.ex sc b st) fun fl st => match fl with
    | .nxt => rc.wh sc t b st
    | .brk => rp .nxt st
    | .ret g => rp (.ret g) st
  | false => rp .nxt st

noncomputable def exE (rc : Rc) (sc : Scope) (e : Expr) (st : St) : R Fl := match noComp e with
  | true => rb (rc.ev sc e st) fun _ st => rp .nxt st
  | false => none
noncomputable def exA1 (P : Pr) (rc : Rc) (sc : Scope) (t e : Expr) (st : St) : R Fl := match noComp e && !((isTup t || isLst t) && isTup e) with
  | true => rb (rc.ev sc e st) fun g st => rb (storeG P rc sc t g st) fun _ st => rp .nxt st
  | false => none
noncomputable def exA (P : Pr) (rc : Rc) (sc : Scope) (ts : List Expr) (e : Expr) (st : St) : R Fl := match ts with
  | [] => none
  | t :: r => match r with
    | [] => exA1 P rc sc t e st
    | _ :: _ => none
noncomputable def exGN (rc : Rc) (sc : Scope) (x : Str) (op : Operator) (e : Expr) (st : St) : R Fl := match isLoc sc x with
  | true => match st.loc.lookup x with
    | some g => rb (rc.ev sc e st) fun v st => rb (binG op g v st) fun r st => rp .nxt ⟨(x, r) :: st.loc, st.ah, st.hs⟩
    | none => none
  | false => none
noncomputable def exGA (P : Pr) (rc : Rc) (sc : Scope) (o : Expr) (x : Str) (op : Operator) (e : Expr) (st : St) : R Fl :=
  rb (rc.ev sc o st) fun ov st => rb (getAttrG P ov x st) fun g st => rb (rc.ev sc e st) fun v st => rb (binG op g v st) fun r st =>
        rb (setAttrG P ov x r st) fun _ st => rp .nxt st
noncomputable def exG (P : Pr) (rc : Rc) (sc : Scope) (t : Expr) (op : Operator) (e : Expr) (st : St) : R Fl := match t with
  | .Name x _ => exGN rc sc x op e st
  | .Attribute o x _ => exGA P rc sc o x op e st
  | _ => none
noncomputable def exIf (rc : Rc) (sc : Scope) (t : Expr) (b o : List Stmt) (st : St) : R Fl := rb (rc.ts sc t st) fun c st => rb (ask c st) fun c st => match c with
  | true => rc.ex sc b st
  | false => rc.ex sc o st
noncomputable def hintW : List H → Option (Fl × Loc × AH × List H)
  | [] => none
  | h :: r => match h with
    | .w fl loc ah => some (fl, loc, ah, r)
    | _ => none
noncomputable def exWh (O : Orc) (rc : Rc) (sc : Scope) (t : Expr) (b o : List Stmt) (pos : Pos) (st : St) : R Fl := match hintW st.hs with
  | some q => some ([O.stmt sc (.While t b o pos) st.loc st.ah q.1 q.2.1 q.2.2.1], q.1, ⟨q.2.1, q.2.2.1, q.2.2.2⟩)
  | none => match o with
    | [] => whS rc sc t b st
    | _ :: _ => none
noncomputable def exFor1 (P : Pr) (rc : Rc) (sc : Scope) (t i : Expr) (b : List Stmt) (st : St) : R Fl := match t with
  | .Name x _ => match isLoc sc x with
    | true => forG P rc sc x i b st
    | false => none
  | _ => none
noncomputable def exFor (P : Pr) (O : Orc) (rc : Rc) (sc : Scope) (t i : Expr) (b o : List Stmt) (pos : Pos) (st : St) : R Fl := match hintW st.hs with
  | some q => some ([O.stmt sc (.For t i b o pos) st.loc st.ah q.1 q.2.1 q.2.2.1], q.1, ⟨q.2.1, q.2.2.1, q.2.2.2⟩)
  | none => match o with
    | [] => exFor1 P rc sc t i b st
    | _ :: _ => none
noncomputable def exRet (rc : Rc) (sc : Scope) (e : Option Expr) (st : St) : R Fl := match e with
  | some e => rb (rc.ev sc e st) fun g st => rp (.ret g) st
  | none => rp (.ret .none) st
noncomputable def ex1S (P : Pr) (O : Orc) (rc : Rc) (sc : Scope) (s : Stmt) (st : St) : R Fl := match s with
  | .Expr e _ => exE rc sc e st
  | .Assign ts e _ => exA P rc sc ts e st
  | .AugAssign t op e _ => exG P rc sc t op e st
  | .If t b o _ => exIf rc sc t b o st
  | .While t b o pos => exWh O rc sc t b o pos st
  | .For t i b o pos => exFor P O rc sc t i b o pos st
  | .Return e _ => exRet rc sc e st
  | .Break _ => rp .brk st
  | .Pass _ => rp .nxt st
  | _ => none

/-- a call of a def -/
noncomputable def clS (P : Pr) (O : Orc) (rc : Rc) (f : Nat) (ga : List GV) (st : St) : R GV := match orc f st.hs with
  | some (g, ah, r) => some ([O.call f ga st.ah g ah], g, ⟨st.loc, ah, r⟩)
  | none => match P.fns.lookup f with
    | none => none
    | some fi => match bndOk fi.ns fi.ds ga with
      | false => none
      | true => rb (rc.ex fi.scope fi.body ⟨bnd fi.ns fi.ds ga, st.ah, st.hs⟩) fun fl st' => match fl with
        | .ret g => rp g ⟨st.loc, st'.ah, st'.hs⟩
        | .nxt => rp .none ⟨st.loc, st'.ah, st'.hs⟩
        | .brk => none
where
  orc (f : Nat) : List H → Option (GV × AH × List H)
    | .c k g ah :: r => match Nat.beq k f with
      | true => some (g, ah, r)
      | false => none
    | _ => none

/-- the executor -/
noncomputable def mk (P : Pr) (O : Orc) : Nat → Rc
  | 0 => ⟨fun _ _ _ => none, fun _ _ _ => none, fun _ _ _ => none, fun _ _ _ => none, fun _ _ _ _ => none⟩
  | n + 1 => ⟨evS P O (mk P O n), tsS (mk P O n), fun sc => execL (ex1S P O (mk P O n) sc), clS P O (mk P O n), whS (mk P O n)⟩
end Mine
end

section
set_option maxRecDepth 100000
set_option autoImplicit false
set_option tactic.hygienic false
namespace Mine
open PySem PySem.W PySem.Calls PyProof.Rows

noncomputable def AllP (c : List Prop) : Prop := ∀ p ∈ c, p
theorem AllP.left {a b : List Prop} (h : AllP (a ++ b)) : AllP a := fun p hp => h p (List.mem_append_left _ hp)
theorem AllP.right {a b : List Prop} (h : AllP (a ++ b)) : AllP b := fun p hp => h p (List.mem_append_right _ hp)
theorem AllP.one {p : Prop} (h : AllP [p]) : p := h p (.head _)
theorem AllP.nil : AllP [] := fun _ h => nomatch h
theorem AllP.cons {p : Prop} {c : List Prop} (h : p) (k : AllP c) : AllP (p :: c) := fun q hq => by
  rcases List.mem_cons.mp hq with rfl | hq
  · exact h
  · exact k q hq

theorem rb_inv {α β : Type} {x : R α} {f : α → St → R β} {c : List Prop} {b : β} {st : St} (h : rb x f = some (c, b, st)) :
    ∃ c₁ a st₁ c₂, x = some (c₁, a, st₁) ∧ f a st₁ = some (c₂, b, st) ∧ c = c₁ ++ c₂ := by
  unfold rb at h
  cases x with
  | none => cases h
  | some y =>
    obtain ⟨c₁, a, st₁⟩ := y
    dsimp only at h
    cases hf : f a st₁ with
    | none => rw [hf] at h; cases h
    | some z =>
      obtain ⟨c₂, b', st₂⟩ := z
      rw [hf] at h
      cases h
      exact ⟨c₁, a, st₁, c₂, rfl, hf, rfl⟩
theorem rb_elim {α β : Type} {x : R α} {f : α → St → R β} {c : List Prop} {b : β} {st : St} {p : Prop} (h : rb x f = some (c, b, st)) (hc : AllP c)
    (k : ∀ c₁ a st₁ c₂, x = some (c₁, a, st₁) → f a st₁ = some (c₂, b, st) → AllP (c₁ ++ c₂) → p) : p := by
  obtain ⟨c₁, a, st₁, c₂, h1, h2, e⟩ := rb_inv h
  exact k c₁ a st₁ c₂ h1 h2 (e ▸ hc)
theorem need_inv {p : Prop} {st st' : St} {c : List Prop} {u : Unit} (h : need p st = some (c, u, st')) (hc : AllP c) : p ∧ st = st' := by
  cases h; exact ⟨hc.one, rfl⟩

/-- the same but for the hints -/
noncomputable def Same (st st' : St) : Prop := st'.loc = st.loc ∧ st'.ah = st.ah
theorem Same.refl (st : St) : Same st st := ⟨rfl, rfl⟩
theorem Same.trans {a b c : St} (h : Same a b) (k : Same b c) : Same a c := ⟨k.1.trans h.1, k.2.trans h.2⟩
theorem getO_inv {α : Type} {x : Option α} {o : α} {st st' : St} {c : List Prop} (h : getO x st = some (c, o, st')) : x = some o ∧ st' = st := by
  cases x with
  | none => cases h
  | some y => cases h; exact ⟨rfl, rfl⟩
theorem sure_inv {b d : Bool} {st st' : St} {c : List Prop} (h : sure b st = some (c, d, st')) : b = d ∧ st' = st := by
  cases b <;> (cases h; exact ⟨rfl, rfl⟩)
theorem ask_inv {b d : Bool} {st st' : St} {c : List Prop} (h : ask b st = some (c, d, st')) (hc : AllP c) : b = d ∧ Same st st' := by
  unfold ask at h
  cases q : hintB st.hs with
  | none => rw [q] at h; obtain ⟨e, rfl⟩ := sure_inv h; exact ⟨e, Same.refl _⟩
  | some q' =>
    rw [q] at h
    obtain ⟨v, r⟩ := q'
    cases v with
    | none => obtain ⟨e, rfl⟩ := sure_inv h; exact ⟨e, rfl, rfl⟩
    | some v => cases h; exact ⟨hc.one, rfl, rfl⟩
theorem alloc_inv {r : Rf} {o : AO} {st st' : St} {c : List Prop} (h : alloc o st = some (c, r, st')) (hc : AllP c) : ∃ q, r = st.ah.nx q ∧ st'.loc = st.loc ∧ st'.ah = st.ah.push q o := by
  unfold alloc at h
  cases z : hintP st.hs with
  | none => rw [z] at h; cases h; exact ⟨.n, rfl, rfl, rfl⟩
  | some u =>
    rw [z] at h
    obtain ⟨⟨q, i⟩, r⟩ := u
    cases i with
    | none => cases h; exact ⟨q, rfl, rfl, rfl⟩
    | some i => cases h; exact ⟨q, hc.one.symm, rfl, rfl⟩
theorem derefN_inv {i : Nat} {o : AO} {st st' : St} {c : List Prop} (h : derefN i st = some (c, o, st')) (hc : AllP c) : st.ah.n[i]? = some o ∧ Same st st' := by
  unfold derefN at h
  cases q : hintO st.hs with
  | none => rw [q] at h; obtain ⟨e, rfl⟩ := getO_inv h; exact ⟨e, Same.refl _⟩
  | some u => rw [q] at h; cases h; exact ⟨hc.one, rfl, rfl⟩
theorem derefD_inv {i : Nat} {o : AO} {st st' : St} {c : List Prop} (h : derefD i st = some (c, o, st')) (hc : AllP c) : st.ah.d[i]? = some o ∧ Same st st' := by
  unfold derefD at h
  cases q : hintO st.hs with
  | none => rw [q] at h; cases h
  | some u => rw [q] at h; cases h; exact ⟨hc.one, rfl, rfl⟩
theorem deref_inv {r : Rf} {o : AO} {st st' : St} {c : List Prop} (h : deref r st = some (c, o, st')) (hc : AllP c) : st.ah.get r = some o ∧ Same st st' := by
  cases r with
  | c i => obtain ⟨e, rfl⟩ := getO_inv h; exact ⟨e, Same.refl _⟩
  | n i => exact derefN_inv h hc
  | d i => exact derefD_inv h hc
theorem nth_inv {xs : List GV} {i : Nat} {g : GV} {st st' : St} {c : List Prop} (h : nth xs i st = some (c, g, st')) (hc : AllP c) : xs[i]? = some g ∧ Same st st' := by
  unfold nth at h
  cases q : hintV st.hs with
  | none => rw [q] at h; obtain ⟨e, rfl⟩ := getO_inv h; exact ⟨e, Same.refl _⟩
  | some u => rw [q] at h; cases h; exact ⟨hc.one, rfl, rfl⟩
theorem unsnoc_spec : ∀ {xs ys : List GV} {g : GV}, unsnoc xs = some (ys, g) → xs = ys ++ [g]
  | [], _, _, h => by cases h
  | x :: r, ys, g, h => by
    unfold unsnoc at h
    cases q : unsnoc r with
    | none =>
      rw [q] at h
      cases h
      cases r with
      | nil => rfl
      | cons y r' =>
        unfold unsnoc at q
        cases q2 : unsnoc r' with
        | none => rw [q2] at q; cases q
        | some p => rw [q2] at q; obtain ⟨a, b⟩ := p; cases q
    | some p =>
      obtain ⟨a, b⟩ := p
      rw [q] at h
      cases h
      rw [unsnoc_spec q]; rfl
theorem lastOf_inv {xs : List GV} {p : List GV × GV} {st st' : St} {c : List Prop} (h : lastOf xs st = some (c, p, st')) (hc : AllP c) : xs = p.1 ++ [p.2] ∧ Same st st' := by
  unfold lastOf at h
  cases q : hintL st.hs with
  | none => rw [q] at h; obtain ⟨e, rfl⟩ := getO_inv h; exact ⟨unsnoc_spec e, Same.refl _⟩
  | some u => rw [q] at h; cases h; exact ⟨hc.one, rfl, rfl⟩
theorem memI_spec {x : Int} : ∀ {xs : List GV} {b : Bool}, memI x xs = some b → ∃ ys : List Int, xs = ys.map GV.int ∧ b = ys.any (· == x)
  | [], b, h => by cases h; exact ⟨[], rfl, rfl⟩
  | g :: r, b, h => by
    cases g with
    | int y =>
      unfold memI at h
      cases q : memI x r with
      | none => rw [q] at h; cases h
      | some b' =>
        rw [q] at h
        cases h
        obtain ⟨ys, rfl, rfl⟩ := memI_spec q
        exact ⟨y :: ys, rfl, rfl⟩
    | _ => cases h

theorem mem_inv {x : Int} {xs : List GV} {b : Bool} {st st' : St} {c : List Prop} (h : mem x xs st = some (c, b, st')) (hc : AllP c) : memI x xs = some b ∧ Same st st' := by
  unfold mem at h
  cases q : hintMb st.hs with
  | none => rw [q] at h; obtain ⟨e, rfl⟩ := getO_inv h; exact ⟨e, Same.refl _⟩
  | some u => rw [q] at h; cases h; exact ⟨hc.one, rfl, rfl⟩
theorem nint_inv {i : Int} {g : GV} {st st' : St} {c : List Prop} (h : nint i st = some (c, g, st')) (hc : AllP c) : g = .int i ∧ Same st st' := by
  unfold nint at h
  cases q : hintI st.hs with
  | none => rw [q] at h; cases h; exact ⟨rfl, Same.refl _⟩
  | some u => rw [q] at h; cases h; exact ⟨by rw [hc.one], rfl, rfl⟩
theorem none_ne {α : Type} {x : α} {p : Prop} (h : none = some x) : p := nomatch h
theorem isLoc_inv {sc : Scope} {x : Str} (h : isLoc sc x = true) : sc.names.lookup x = some .local := by
  unfold isLoc at h
  cases q : sc.names.lookup x with
  | none => rw [q] at h; cases h
  | some k =>
    rw [q] at h
    cases k with
    | «local» => rfl
    | _ => cases h
/-! ## what holds of a run -/
/-- the whole state of an expression's end -/
noncomputable def EvOK (K : Frag) (n : Nat) (sc : Scope) (e : Expr) (loc : Loc) (ah : AH) (g : GV) (ah' : AH) : Prop :=
  ∀ {prog : Program} {w : World} {A : Around} {E : Value → Shared → Prop} {s : Shared} {h₀ : Heap} {env : Env} {φ : Phi} {N : Led} {m : Str → Option Value} {Q : Value → Shared → Prop},
    CX K A h₀ env sc n → Li K w.params h₀ env.locals loc ah φ N m s.heap →
    (∀ φ' N' v h' tk, Li K w.params h₀ env.locals loc ah' φ' N' m h' → Ext φ ah N φ' ah' N' → V K φ' N' g v → Q v ⟨h', s.gens, s.drawn, tk, s.os⟩) →
    wpAny (model prog w) A (eval e env) Q E s
noncomputable def TsOK (K : Frag) (n : Nat) (sc : Scope) (e : Expr) (loc : Loc) (ah : AH) (b : Bool) (ah' : AH) : Prop :=
  ∀ {prog : Program} {w : World} {A : Around} {E : Value → Shared → Prop} {s : Shared} {h₀ : Heap} {env : Env} {φ : Phi} {N : Led} {m : Str → Option Value} {Q : Bool → Shared → Prop},
    CX K A h₀ env sc n → Li K w.params h₀ env.locals loc ah φ N m s.heap →
    (∀ φ' N' h' tk, Li K w.params h₀ env.locals loc ah' φ' N' m h' → Ext φ ah N φ' ah' N' → Q b ⟨h', s.gens, s.drawn, tk, s.os⟩) →
    wpAny (model prog w) A (isTrue e env (eval e env)) Q E s
/-- a flow's end, as the interpreter's -/
noncomputable def FlV (K : Frag) (φ : Phi) (N : Led) : Fl → Flow → Prop
  | .nxt, f => f = .next
  | .brk, f => f = .brk
  | .ret g, f => ∃ v, f = .ret v ∧ V K φ N g v
noncomputable def ExOK (K : Frag) (n : Nat) (sc : Scope) (ss : List Stmt) (loc : Loc) (ah : AH) (fl : Fl) (loc' : Loc) (ah' : AH) : Prop :=
  ∀ {prog : Program} {w : World} {A : Around} {E : Value → Shared → Prop} {s : Shared} {h₀ : Heap} {env : Env} {φ : Phi} {N : Led} {m : Str → Option Value} {Q : Flow → Shared → Prop},
    CX K A h₀ env sc n → Li K w.params h₀ env.locals loc ah φ N m s.heap →
    (∀ φ' N' m' f h' tk, Li K w.params h₀ env.locals loc' ah' φ' N' m' h' → Ext φ ah N φ' ah' N' → FlV K φ' N' fl f → Q f ⟨h', s.gens, s.drawn, tk, s.os⟩) →
    wpAny (model prog w) A (execs ss env) Q E s
noncomputable def StOK (K : Frag) (n : Nat) (sc : Scope) (ss : Stmt) (loc : Loc) (ah : AH) (fl : Fl) (loc' : Loc) (ah' : AH) : Prop :=
  ∀ {prog : Program} {w : World} {A : Around} {E : Value → Shared → Prop} {s : Shared} {h₀ : Heap} {env : Env} {φ : Phi} {N : Led} {m : Str → Option Value} {Q : Flow → Shared → Prop},
    CX K A h₀ env sc n → Li K w.params h₀ env.locals loc ah φ N m s.heap →
    (∀ φ' N' m' f h' tk, Li K w.params h₀ env.locals loc' ah' φ' N' m' h' → Ext φ ah N φ' ah' N' → FlV K φ' N' fl f → Q f ⟨h', s.gens, s.drawn, tk, s.os⟩) →
    wpAny (model prog w) A (exec ss env) Q E s
/-- a call of a def, seen from any caller's frame -/
noncomputable def ClOK (K : Frag) (n : Nat) (f : Nat) (ga : List GV) (ah : AH) (g : GV) (ah' : AH) : Prop :=
  keepIn K (.ref f) = true ∧
  ∀ {prog : Program} {w : World} {A A' : Around} {s : Shared} {h₀ : Heap} {env : Env} {sc : Scope} {loc : Loc} {φ : Phi} {N : Led} {m : Str → Option Value} {R : Result → Shared → Prop} {vs : List Value},
    CX K A h₀ env sc n → A'.frames = A.frames → A'.handled = none → A'.depth ≤ A.depth + 1 → A'.units ≤ A.units + 1 → Li K w.params h₀ env.locals loc ah φ N m s.heap → Vs K φ N ga vs →
    (∀ φ' N' v h' tk, Li K w.params h₀ env.locals loc ah' φ' N' m h' → Ext φ ah N φ' ah' N' → V K φ' N' g v → R (.ok (.ret v)) ⟨h', s.gens, s.drawn, tk, s.os⟩) →
    codeAny (model prog w) A' (.call (.ref f) ⟨vs, []⟩) R s
theorem EvOK.up {K : Frag} {n k : Nat} {sc : Scope} {e : Expr} {loc : Loc} {ah ah' : AH} {g : GV} (h : EvOK K n sc e loc ah g ah') (q : n ≤ k) : EvOK K k sc e loc ah g ah' := fun C I f => h (C.less q) I f
theorem TsOK.up {K : Frag} {n k : Nat} {sc : Scope} {e : Expr} {loc : Loc} {ah ah' : AH} {b : Bool} (h : TsOK K n sc e loc ah b ah') (q : n ≤ k) : TsOK K k sc e loc ah b ah' := fun C I f => h (C.less q) I f
theorem ExOK.up {K : Frag} {n k : Nat} {sc : Scope} {e : List Stmt} {loc loc' : Loc} {ah ah' : AH} {g : Fl} (h : ExOK K n sc e loc ah g loc' ah') (q : n ≤ k) : ExOK K k sc e loc ah g loc' ah' := fun C I f => h (C.less q) I f
theorem StOK.up {K : Frag} {n k : Nat} {sc : Scope} {e : Stmt} {loc loc' : Loc} {ah ah' : AH} {g : Fl} (h : StOK K n sc e loc ah g loc' ah') (q : n ≤ k) : StOK K k sc e loc ah g loc' ah' := fun C I f => h (C.less q) I f
theorem ClOK.up {K : Frag} {n k : Nat} {f : Nat} {ga : List GV} {ah ah' : AH} {g : GV} (h : ClOK K n f ga ah g ah') (q : n ≤ k) : ClOK K k f ga ah g ah' := ⟨h.1, fun C a b c d I v f => h.2 (C.less q) a b c d I v f⟩
end Mine
end

section
set_option maxRecDepth 100000
set_option autoImplicit false
set_option tactic.hygienic false
namespace Mine
open PySem PySem.W PySem.Calls PyProof.Rows

structure PrOK (K : Frag) (P : Pr) : Prop where
  md : ∃ o, K.lookup sysModules = some o
  fn : ∀ (f : Nat) (fi : FI), P.fns.lookup f = some fi → FnOK K f fi
  cl : ∀ (C : Nat) (ci : CI), P.cls.lookup C = some ci → ClsOK K C ci
  gl : ∀ (x : Str) (g : GV), P.glob.lookup x = some g → (∃ v, nsIn K mainGlobals x = some (some v) ∧ ∀ φ N, V K φ N g v) ∨
    (∃ v, nsIn K mainGlobals x = some none ∧ bootBuiltins x = some v ∧ x ≠ "__name__" ∧ ∀ φ N, V K φ N g v)

noncomputable def SndE (K : Frag) (ev : Scope → Expr → St → R GV) (n : Nat) : Prop :=
  ∀ (sc : Scope) (e : Expr) (st : St) (c : List Prop) (g : GV) (st' : St), ev sc e st = some (c, g, st') → AllP c → st'.loc = st.loc ∧ EvOK K n sc e st.loc st.ah g st'.ah
noncomputable def SndT (K : Frag) (ts : Scope → Expr → St → R Bool) (n : Nat) : Prop :=
  ∀ (sc : Scope) (e : Expr) (st : St) (c : List Prop) (b : Bool) (st' : St), ts sc e st = some (c, b, st') → AllP c → st'.loc = st.loc ∧ TsOK K n sc e st.loc st.ah b st'.ah
noncomputable def SndC (K : Frag) (cl : Nat → List GV → St → R GV) (n : Nat) : Prop :=
  ∀ (f : Nat) (ga : List GV) (st : St) (c : List Prop) (g : GV) (st' : St), cl f ga st = some (c, g, st') → AllP c → st'.loc = st.loc ∧ ClOK K n f ga st.ah g st'.ah
noncomputable def SndX (K : Frag) (ex : Scope → List Stmt → St → R Fl) (n : Nat) : Prop :=
  ∀ (sc : Scope) (e : List Stmt) (st : St) (c : List Prop) (g : Fl) (st' : St), ex sc e st = some (c, g, st') → AllP c → ExOK K n sc e st.loc st.ah g st'.loc st'.ah

theorem starEach_cons {e : Expr} {es : List Expr} {env : Env} (h : ∀ x p, e ≠ .Starred x p) : starEach (e :: es) env = (false, eval e env) :: starEach es env := by
  cases e <;> first | rfl | exact absurd rfl (h _ _)

section
variable {K : Frag} {n : Nat} {ev : Scope → Expr → St → R GV} {sc : Scope}

theorem evL_cons {ev : Expr → St → R GV} {e : Expr} {es : List Expr} {st st' : St} {c : List Prop} {gs : List GV} (h : evL ev (e :: es) st = some (c, gs, st')) :
    (∀ x p, e ≠ .Starred x p) ∧ ∃ c₁ g st₁ c₂ r, ev e st = some (c₁, g, st₁) ∧ evL ev es st₁ = some (c₂, r, st') ∧ gs = g :: r ∧ c = c₁ ++ c₂ := by
  unfold evL at h
  cases q : isStar e with
  | true => rw [q] at h; cases h
  | false =>
    rw [q] at h
    obtain ⟨c₁, a, st₁, c₂, h1, h2, e1⟩ := rb_inv h
    obtain ⟨c₃, b, st₂, c₄, h3, h4, e2⟩ := rb_inv h2
    cases h4
    exact ⟨fun x p y => (by rw [y] at q; cases q), c₁, a, st₁, c₃, b, h1, h3, rfl, by rw [e1, e2, List.append_nil]⟩

/-- a row of arguments -/
noncomputable def ArOK (K : Frag) (n : Nat) (sc : Scope) (es : List Expr) (loc : Loc) (ah : AH) (gs : List GV) (ah' : AH) : Prop :=
  (es = [] → gs = [] ∧ ah' = ah) ∧ ∀ {pos : Pos} {prog : Program} {w : World} {A : Around} {E : Value → Shared → Prop} {s : Shared} {h₀ : Heap} {env : Env} {φ : Phi} {N : Led} {m : Str → Option Value} {Q : List Value → Shared → Prop},
    CX K A h₀ env sc n → Li K w.params h₀ env.locals loc ah φ N m s.heap →
    (∀ φ' N' vs h' tk, Li K w.params h₀ env.locals loc ah' φ' N' m h' → Ext φ ah N φ' ah' N' → Vs K φ' N' gs vs → Q vs ⟨h', s.gens, s.drawn, tk, s.os⟩) →
    wpAny (model prog w) A (spliced (backTo pos (starEach es env))) Q E s
theorem snd_args (he : SndE K ev n) : ∀ (es : List Expr) {st : St} {c : List Prop} {gs : List GV} {st' : St}, evL (ev sc) es st = some (c, gs, st') → AllP c → st'.loc = st.loc ∧ ArOK K n sc es st.loc st.ah gs st'.ah
  | [], st, c, gs, st', h, _ => by
    cases h
    refine ⟨rfl, fun _ => ⟨rfl, rfl⟩, fun C I k => ?_⟩
    exact args_nil (k _ _ [] _ _ I (Ext.refl ..) rfl)
  | e :: es, st, c, gs, st', h, hc => by
    obtain ⟨ns, c₁, g, st₁, c₂, r, h1, h2, rfl, rfl⟩ := evL_cons h
    obtain ⟨l1, e1⟩ := he sc e st _ g st₁ h1 hc.left
    obtain ⟨l2, e2⟩ := snd_args he es h2 hc.right
    refine ⟨l2.trans l1, fun q => (nomatch q), fun C I k => ?_⟩
    refine args_cons ?_ (starEach_cons ns)
    refine e1 C I fun φ' N' v h' tk I' X' hv => ?_
    rw [← l1] at I'
    refine e2.2 C I' fun φ'' N'' vs h'' tk' I'' X'' hvs => ?_
    rw [l1] at I''
    exact k _ _ _ _ _ I'' (X'.trans X'') ⟨v, vs, rfl, V.stay (X''.stay I'.hr) _ _ hv, hvs⟩

/-- a call with its arguments, the callee's kind known -/
theorem ArOK.callWith {es : List Expr} {loc : Loc} {ah ah' : AH} {gs : List GV} (h : ArOK K n sc es loc ah gs ah') (ns : ∀ e ∈ es, ∀ x p, e ≠ .Starred x p) {pos : Pos} {f : Value} {first : List Value}
    {prog : Program} {w : World} {A : Around} {E : Value → Shared → Prop} {s : Shared} {h₀ : Heap} {env : Env} {φ : Phi} {N : Led} {m : Str → Option Value} {Q : Value → Shared → Prop}
    (C : CX K A h₀ env sc n) (I : Li K w.params h₀ env.locals loc ah φ N m s.heap) (hk : ∀ h : Heap, K.In h → ∃ k, (k = Keeper.frame ∨ k = Keeper.machine ∨ k = Keeper.boundFrame) ∧ Looks (model prog w) h (keeperOf f) k)
    (k : ∀ φ' N' vs h' tk, Li K w.params h₀ env.locals loc ah' φ' N' m h' → Ext φ ah N φ' ah' N' → Vs K φ' N' gs vs → wpAny (model prog w) A (call f (first ++ vs)) Q E ⟨h', s.gens, s.drawn, tk, s.os⟩) :
    wpAny (model prog w) A (callWith pos f first (backTo pos (starEach es env)) []) Q E s := by
  have hany : (backTo pos (starEach es env)).any (·.1) = false := by
    clear h C I k hk
    induction es with
    | nil => rfl
    | cons e es ih =>
      rw [starEach_cons (ns e (.head _))]
      show (false || (backTo pos (starEach es env)).any (·.1)) = false
      rw [Bool.false_or]
      exact ih fun e he => ns e (.tail _ he)
  have main : wpAny (model prog w) A (spliced (backTo pos (starEach es env))) (fun vs s₁ => K.In s₁.heap ∧ wpAny (model prog w) A (call f (first ++ vs)) Q E s₁) E s :=
    h.2 C I fun φ' N' vs h' tk I' X' hv => ⟨C.kin.keeps I'.fr.keep, k φ' N' vs h' tk I' X' hv⟩
  refine callWith_of (P := K.In) (by rw [hany]; rfl) hk ?_
  cases es with
  | nil =>
    refine evalArgs_nil3 ?_
    obtain ⟨rfl, rfl⟩ := h.1 rfl
    exact ⟨C.kin.keeps I.fr.keep, k φ N [] s.heap s.toks I (Ext.refl ..) rfl⟩
  | cons e es =>
    rw [starEach_cons (ns e (.head _))] at main ⊢
    exact evalArgs_plain main
theorem evL_star : ∀ {es : List Expr} {st : St} {c : List Prop} {gs : List GV} {st' : St}, evL (ev sc) es st = some (c, gs, st') → ∀ e ∈ es, ∀ x p, e ≠ .Starred x p
  | [], _, _, _, _, _, e, h => by cases h
  | e :: es, st, c, gs, st', h, e', he' => by
    obtain ⟨ns, c₁, g, st₁, c₂, r, h1, h2, rfl, rfl⟩ := evL_cons h
    rcases List.mem_cons.mp he' with rfl | he'
    · exact ns
    · exact evL_star h2 e' he'
end
end Mine
end

section
set_option maxRecDepth 100000
set_option autoImplicit false
set_option linter.unusedVariables false
set_option tactic.hygienic false
namespace Mine
open PySem PySem.W PySem.Calls PyProof.Rows

theorem blt_lt {a b : Nat} (h : Nat.blt a b = true) : a < b := Nat.le_of_ble_eq_true h
section
variable {M : Model} {A : Around} {E : Value → Shared → Prop} {s : Shared} {env : Env}
theorem wpAny_attributeBase {o : Expr} {x : Str} {whole : Sem Value} {Q : Value → Shared → Prop} (hs : isSuperCall o = false) (h : wpAny M A whole Q E s) : wpAny M A (attributeBase o x env whole) Q E s := by
  cases o with
  | Call f args kws pos => cases f with
    | Name id p => cases args with
      | nil => cases kws with
        | nil =>
          have hs' : (id == ("super" : Str)) = false := hs
          have e : (id != ("super" : Str)) = true := by rw [bne, hs']; rfl
          unfold attributeBase
          dsimp only
          rw [if_pos (by rw [e]; rfl)]
          first | exact h | exact wpAny_bind (wpAny_mono h (fun _ _ z => wpAny_pure z) fun _ _ z => z)
        | cons => exact h
      | cons => exact h
    | _ => exact h
  | _ => exact h
theorem wpAny_Attribute {prog : Program} {w : World} {o : Expr} {x : Str} {pos : Pos} {Q : Value → Shared → Prop} (hs : isSuperCall o = false)
    (h : wpAny (model prog w) A (eval o env) (fun v s₁ => wpAny (model prog w) A (getAttr v x true) Q E s₁) E s) : wpAny (model prog w) A (eval (.Attribute o x pos) env) Q E s := by
  show wpAny _ _ (attributeBase o x env (eval o env) >>= fun v => standAt pos.atName >>= fun _ => holding [v] (getAttr v x true) >>= fun r => letTemporaryGo o v r >>= fun _ => pure r) _ _ _
  refine wpAny_bind (wpAny_attributeBase hs (wpAny_mono h (fun v s₁ h₁ => wpAny_bind (wpAny_standAt (wpAny_bind (wpAny_holding (wpAny_mono h₁ (fun r s₂ h₂ => ?_) fun _ _ z => z))))) fun _ _ z => z))
  exact wpAny_bind (wpAny_letTemporaryGo (wpAny_pure h₂))
theorem wpAny_methodCall {o : Expr} {x : Str} {apos pos : Pos} {args : List Expr} {Q : Value → Shared → Prop} (hs : isSuperCall o = false) (hl : apos.endLine == pos.line) (hn : args.length < 20)
    (ha : (backTo pos (starEach args env)).all (!·.1) = true)
    (h : wpAny M A (eval o env) (fun v s₁ => ∀ pl, wpAny M A (getMethod v x pl) (fun fx s₂ => wpAny M A (callWith pos fx.1 fx.2 (backTo pos (starEach args env)) []) Q E s₂) E s₁) E s) :
    wpAny M A (eval (.Call (.Attribute o x apos) args [] pos) env) Q E s := by
  show wpAny _ _ (attributeBase o x env (eval o env) >>= fun ov => standAt apos.atName >>= fun _ => methodCall o x apos pos env ov (args.length + 0) (backTo pos (starEach args env)) (backToKw pos (keywordEach [] env))) _ _ _
  refine wpAny_bind (wpAny_attributeBase hs (wpAny_mono h (fun v s₁ h₁ => wpAny_bind (wpAny_standAt ?_)) fun _ _ z => z))
  have few : methodCallForm (args.length + 0) (backTo pos (starEach args env)) (backToKw pos (keywordEach [] env)) = true := by
    unfold methodCallForm
    rw [ha]
    show (true && true && decide (args.length + 0 + 0 < 30)) = true
    simp; omega
  show wpAny _ _ (holding [v] (calleeOf (methodCallForm _ _ _) o env v x) >>= _) _ _ _
  rw [few]
  refine wpAny_bind (wpAny_holding ?_)
  show wpAny _ _ (getMethod v x _) _ _ _
  refine wpAny_mono (h₁ _) (fun fx s₂ h₂ => ?_) fun _ _ z => z
  obtain ⟨f, first⟩ := fx
  show wpAny _ _ (methodCallPos true o env apos pos >>= _) _ _ _
  have e : methodCallPos true o env apos pos = pure pos := by
    unfold methodCallPos
    simp only [Bool.not_true, Bool.false_or, hl, if_true]
  rw [e]
  exact wpAny_bind (wpAny_pure h₂)
theorem wpAny_CallF {f : Expr} {args : List Expr} {pos : Pos} {Q : Value → Shared → Prop} (hf : ∀ o x p, f ≠ .Attribute o x p)
    (h : wpAny M A (eval f env) (fun v s₁ => wpAny M A (callWith pos v [] (backTo pos (starEach args env)) []) Q E s₁) E s) :
    wpAny M A (eval (.Call f args [] pos) env) Q E s := by
  refine Call_ h ?_
  cases f <;> first | rfl | exact absurd rfl (hf _ _ _)
theorem subscripted_plain {i : Expr} {o j : Value} (h : noSlice i = true) : subscripted i false o j = operate [o, j] (getItem o j) := by
  cases i <;> first | rfl | cases h
theorem wpAny_Sub {prog : Program} {w : World} {o i : Expr} {pos : Pos} {T id : String} {Q : Value → Shared → Prop} (hi : noSlice i = true)
    (h : wpAny (model prog w) A (eval o env) (fun v s₁ => wpAny (model prog w) A (eval i env) (fun j s₂ => ∃ T id, s₂.TypeIs v T ∧ typeLookup (.type T) "__getitem__" = pure (some (.builtin id)) ∧ wpAny (model prog w) A (getItem v j) Q E s₂) E s₁) E s) :
    wpAny (model prog w) A (eval (.Subscript o i pos) env) Q E s :=
  Subscript_ (wpAny_mono h (fun v s₁ h₁ => wpAny_mono h₁ (fun j s₂ ⟨T, id, h1, h2, h3⟩ => tail_any h1 h2 h3 (subscripted_plain hi)) fun _ _ z => z) fun _ _ z => z)
end

section
variable {K : Frag} {P : Pr} {n : Nat} {loc : Loc} {prog : Program} {w : World} {A : Around} {E : Value → Shared → Prop} {s : Shared} {h₀ : Heap} {env : Env} {sc : Scope} {φ : Phi} {N : Led} {m : Str → Option Value}

theorem nameG_inv {st st' : St} {c : List Prop} {x : Str} {g : GV} (h : nameG P sc x st = some (c, g, st')) : st' = st ∧ ((sc.names.lookup x = some .local ∧ st.loc.lookup x = some g) ∨ (sc.names.lookup x = some .globalImplicit ∧ P.glob.lookup x = some g)) := by
  unfold nameG at h
  cases q : sc.names.lookup x with
  | none => rw [q] at h; cases h
  | some k =>
    rw [q] at h
    cases k with
    | «local» => obtain ⟨a, b⟩ := getO_inv h; exact ⟨b, .inl ⟨rfl, a⟩⟩
    | globalImplicit => obtain ⟨a, b⟩ := getO_inv h; exact ⟨b, .inr ⟨rfl, a⟩⟩
    | _ => cases h
theorem snd_name (OK : PrOK K P) (C : CX K A h₀ env sc n) {st st' : St} {c : List Prop} {x : Str} {pos : Pos} {g : GV} {Q : Value → Shared → Prop} (h : nameG P sc x st = some (c, g, st'))
    (I : Li K w.params h₀ env.locals st.loc st.ah φ N m s.heap) (k : ∀ v, V K φ N g v → Q v s) : st' = st ∧
    wpAny (model prog w) A (eval (.Name x pos) env) Q E s := by
  obtain ⟨e, h⟩ := nameG_inv h
  refine ⟨e, ?_⟩
  obtain ⟨cn, aa, cd, henv⟩ := C.envE
  obtain ⟨p, loose, mg, mb, T⟩ := C.top
  have hd : (x == ("__debug__" : Str)) = false := by
    cases q : x == ("__debug__" : Str) with
    | false => rfl
    | true =>
      have e : x = "__debug__" := beq_iff_eq.mp q
      subst e
      have := C.dbg
      rcases h with ⟨a, _⟩ | ⟨a, _⟩ <;> · rw [this] at a; cases a
  rw [henv]
  rcases h with ⟨a, b⟩ | ⟨a, b⟩
  · obtain ⟨v, h1, h2⟩ := I.lc x g b
    exact nameX_L I.fr h1 (k v h2) C.kind a hd
  · rcases OK.gl x g b with ⟨v, h1, h2⟩ | ⟨v, h1, h2, h3, h4⟩
    · exact nameX_K I.fr C.kin T h1 (k v (h2 φ N)) C.kind a hd
    · exact nameX_B I.fr C.kin T h1 h2 h3 (k v (h4 φ N)) C.kind a hd

/-- an attribute, read -/
noncomputable def GaOK (K : Frag) (n : Nat) (o : GV) (x : Str) (g : GV) (ah : AH) : Prop :=
  ∀ {prog : Program} {w : World} {A : Around} {E : Value → Shared → Prop} {s : Shared} {h₀ : Heap} {env : Env} {sc : Scope} {φ : Phi} {N : Led} {m : Str → Option Value} {loc : Loc} {v : Value} {expr : Bool} {Q : Value → Shared → Prop} (_ : CX K A h₀ env sc n)
    (_ : Li K w.params h₀ env.locals loc ah φ N m s.heap) (_ : V K φ N o v) (_ : ∀ u tk, V K φ N g u → Q u ⟨s.heap, s.gens, s.drawn, tk, s.os⟩),
    wpAny (model prog w) A (getAttr v x expr) Q E s
/-- an attribute, set -/
noncomputable def SaOK (K : Frag) (n : Nat) (o g : GV) (x : Str) (ah ah' : AH) : Prop :=
  ∀ {prog : Program} {w : World} {A : Around} {E : Value → Shared → Prop} {s : Shared} {h₀ : Heap} {env : Env} {sc : Scope} {φ : Phi} {N : Led} {m : Str → Option Value} {loc : Loc} {v u : Value} {Q : Unit → Shared → Prop} (_ : CX K A h₀ env sc n)
    (_ : Li K w.params h₀ env.locals loc ah φ N m s.heap) (_ : V K φ N o v) (_ : V K φ N g u)
    (_ : ∀ φ' N' h' tk, Li K w.params h₀ env.locals loc ah' φ' N' m h' → Ext φ ah N φ' ah' N' → Q () ⟨h', s.gens, s.drawn, tk, s.os⟩),
    wpAny (model prog w) A (setAttr v x u) Q E s
theorem getF_inv {o : AO} {st st' : St} {c : List Prop} {g : GV} {x : Str} (h : getF P o x st = some (c, g, st')) : st' = st ∧ ∃ C fs ci, o = .inst C fs ∧ P.cls.lookup C = some ci ∧ ci.flds.contains x = true ∧ fs.lookup x = some g ∧ plainV g = true := by
  cases o with
  | inst C fs =>
    unfold getF at h
    dsimp only at h
    cases q1 : P.cls.lookup C with
    | none => rw [q1] at h; exact none_ne h
    | some ci =>
      rw [q1] at h
      dsimp only at h
      cases q2 : ci.flds.contains x with
      | false => rw [q2] at h; exact none_ne h
      | true =>
        rw [q2] at h
        dsimp only at h
        cases q3 : fs.lookup x with
        | none => rw [q3] at h; exact none_ne h
        | some g' =>
          rw [q3] at h
          dsimp only at h
          cases q4 : plainV g' with
          | false => rw [q4] at h; exact none_ne h
          | true => rw [q4] at h; cases h; exact ⟨rfl, C, fs, ci, rfl, q1, q2, q3, q4⟩
  | _ => exact none_ne h
theorem snd_getAttr (OK : PrOK K P) {st st' : St} {c : List Prop} {o g : GV} {x : Str} (h : getAttrG P o x st = some (c, g, st')) (hc : AllP c) : Same st st' ∧ GaOK K n o x g st.ah := by
  cases o with
  | obj r =>
    apply rb_elim h hc
    clear h hc
    intro c₁ ob st₁ c₂ h1 h2 hc
    obtain ⟨g1, S⟩ := deref_inv h1 hc.left
    obtain ⟨rfl, C, fs, ci, rfl, h3, h4, h5, h6⟩ := getF_inv h2
    exact ⟨S, fun C I hv k => r_get C.kin I g1 hv (OK.cl _ _ h3) (List.contains_iff_mem.mp h4) h5 h6 k⟩
  | _ => exact none_ne h
theorem setF_inv {r : Rf} {o : AO} {st st' : St} {c : List Prop} {g : GV} {x : Str} {u : Unit} (h : setF P r o x g st = some (c, u, st')) : ∃ C fs ci, st' = setAt r (.inst C (putF x g fs)) st ∧ o = .inst C fs ∧ P.cls.lookup C = some ci ∧ ci.flds.contains x = true ∧ Nat.blt fs.length 1000 = true := by
  cases o with
  | inst C fs =>
    unfold setF at h
    dsimp only at h
    cases q1 : P.cls.lookup C with
    | none => rw [q1] at h; exact none_ne h
    | some ci =>
      rw [q1] at h
      dsimp only at h
      cases q2 : ci.flds.contains x && Nat.blt fs.length 1000 with
      | false => rw [q2] at h; exact none_ne h
      | true =>
        rw [q2] at h
        obtain ⟨a, b⟩ := Bool.and_eq_true_iff.mp q2
        cases h
        exact ⟨C, fs, ci, rfl, rfl, q1, a, b⟩
  | _ => exact none_ne h
theorem snd_setAttr (OK : PrOK K P) {st st' : St} {c : List Prop} {o g : GV} {x : Str} {u₀ : Unit} (h : setAttrG P o x g st = some (c, u₀, st')) (hc : AllP c) : st'.loc = st.loc ∧ SaOK K n o g x st.ah st'.ah := by
  cases o with
  | obj r =>
    apply rb_elim h hc
    clear h hc
    intro c₁ ob st₁ c₂ h1 h2 hc
    obtain ⟨g1, S⟩ := deref_inv h1 hc.left
    obtain ⟨C, fs, ci, rfl, rfl, h3, h4, h5⟩ := setF_inv h2
    refine ⟨S.1, fun C I hv hu k => r_set C.kin I g1 hv hu (OK.cl _ _ h3) (List.contains_iff_mem.mp h4) (blt_lt h5) ?_⟩
    unfold setAt at k
    rw [S.2] at k
    exact k _
  | _ => exact none_ne h
end
end Mine
end

section
set_option maxRecDepth 100000
set_option autoImplicit false
set_option linter.unusedVariables false
set_option tactic.hygienic false
namespace Mine
open PySem PySem.W PySem.Calls PyProof.Rows

/-- a step of the interpreter upon values -/
noncomputable def Wv {β : Type} (K : Frag) (n : Nat) (ops : List GV) (tree : List Value → Sem β) (ah : AH) (rel : Phi → Led → β → Prop) (ah' : AH) : Prop :=
  ∀ {prog : Program} {w : World} {A : Around} {E : Value → Shared → Prop} {s : Shared} {h₀ : Heap} {env : Env} {sc : Scope} {loc : Loc} {φ : Phi} {N : Led} {m : Str → Option Value} {vs : List Value} {Q : β → Shared → Prop},
    CX K A h₀ env sc n → Li K w.params h₀ env.locals loc ah φ N m s.heap → Vs K φ N ops vs →
    (∀ φ' N' v h' tk, Li K w.params h₀ env.locals loc ah' φ' N' m h' → Ext φ ah N φ' ah' N' → rel φ' N' v → Q v ⟨h', s.gens, s.drawn, tk, s.os⟩) → wpAny (model prog w) A (tree vs) Q E s
noncomputable abbrev isB (b : Bool) (_ : Phi) (_ : Led) (v : Value) : Prop := v = .bool b
noncomputable abbrev rV (K : Frag) (g : GV) (φ : Phi) (N : Led) (v : Value) : Prop := V K φ N g v
noncomputable abbrev isD (b : Bool) (_ : Phi) (_ : Led) (v : Bool) : Prop := v = b
noncomputable abbrev isU (_ : Phi) (_ : Led) (_ : Unit) : Prop := True
noncomputable abbrev t2 {β : Type} (f : Value → Value → Sem β) (vs : List Value) : Sem β := f (vs.getD 0 .none) (vs.getD 1 .none)
noncomputable abbrev t1 {β : Type} (f : Value → Sem β) (vs : List Value) : Sem β := f (vs.getD 0 .none)
noncomputable abbrev t3 {β : Type} (f : Value → Value → Value → Sem β) (vs : List Value) : Sem β := f (vs.getD 0 .none) (vs.getD 1 .none) (vs.getD 2 .none)

section
variable {K : Frag} {n : Nat}
theorem Vs.one_inv {φ : Phi} {N : Led} {a : GV} {vs : List Value} (h : Vs K φ N [a] vs) : ∃ v, vs = [v] ∧ V K φ N a v := by
  obtain ⟨v, r, rfl, h1, h2⟩ := h
  have h2 : r = [] := h2
  subst h2
  exact ⟨v, rfl, h1⟩
theorem Vs.two_inv {φ : Phi} {N : Led} {a b : GV} {vs : List Value} (h : Vs K φ N [a, b] vs) : ∃ v u, vs = [v, u] ∧ V K φ N a v ∧ V K φ N b u := by
  obtain ⟨v, r, rfl, h1, h2⟩ := h
  obtain ⟨u, rfl, h3⟩ := Vs.one_inv h2
  exact ⟨v, u, rfl, h1, h3⟩
theorem Vs.three_inv {φ : Phi} {N : Led} {a b c : GV} {vs : List Value} (h : Vs K φ N [a, b, c] vs) : ∃ v u x, vs = [v, u, x] ∧ V K φ N a v ∧ V K φ N b u ∧ V K φ N c x := by
  obtain ⟨v, r, rfl, h1, h2⟩ := h
  obtain ⟨u, x, rfl, h3, h4⟩ := Vs.two_inv h2
  exact ⟨v, u, x, rfl, h1, h3, h4⟩
theorem V.int_inv {φ : Phi} {N : Led} {i : Int} {v : Value} (h : V K φ N (.int i) v) : ∃ t, v = .int i t := h
theorem V.str_inv {φ : Phi} {N : Led} {i : Str} {v : Value} (h : V K φ N (.str i) v) : ∃ t, v = .str i t := h
theorem V.obj_inv {φ : Phi} {N : Led} {r : Rf} {v : Value} (h : V K φ N (.obj r) v) : ∃ a, v = .ref a := by
  obtain ⟨p, _, rfl⟩ := h; exact ⟨_, rfl⟩

theorem strs_are {φ : Phi} {N : Led} : ∀ {ys : List GV} {l : List Str} {vs : List Value}, cmp.strs? ys = some l → Vs K φ N ys vs → StrsAre vs l
  | [], l, vs, h, hv => by
    cases h
    have hv : vs = [] := hv
    subst hv; exact .nil
  | g :: ys, l, vs, h, hv => by
    cases g with
    | str x =>
      unfold cmp.strs? at h
      cases q : cmp.strs? ys with
      | none => rw [q] at h; cases h
      | some l' =>
        rw [q] at h; cases h
        obtain ⟨v, r, rfl, ⟨t, rfl⟩, h2⟩ := hv
        exact .cons x t (strs_are q h2)
    | _ => cases h

theorem Es.keysLit {P : Params} {φ : Phi} {N : Led} : ∀ {ks : List (Str × GV)} {es : List DictEntry}, Es K P φ N ks es → KeysLit P es
  | [], es, h => by have h : es = [] := h; subst h; trivial
  | x :: xs, es, h => by
    obtain ⟨e, r, rfl, ⟨t, h1⟩, h2, _, h4⟩ := h
    exact ⟨⟨x.1, t, h1, h2⟩, Es.keysLit h4⟩
theorem Es.findBy {P : Params} {φ : Phi} {N : Led} {x : Str} : ∀ {ks : List (Str × GV)} {es : List DictEntry}, Es K P φ N ks es →
    (ks.lookup x = none ∧ PySem.findBy Value.isStrOf es.toArray x = none) ∨ ∃ g v, ks.lookup x = some g ∧ PySem.findBy Value.isStrOf es.toArray x = some v ∧ V K φ N g v
  | [], es, h => by have h : es = [] := h; subst h; exact .inl ⟨rfl, rfl⟩
  | (y, g) :: xs, es, h => by
    obtain ⟨e, r, rfl, ⟨t, h1⟩, h2, h3, h4⟩ := h
    have ih := Es.findBy (x := x) h4
    unfold PySem.findBy at ih ⊢
    rw [List.find?_toArray] at ih ⊢
    rw [List.find?_cons, List.lookup_cons]
    have q : Value.isStrOf x e.key = (x == y) := by rw [h1, ← isStr_of]; exact beq_comm_str _ _
    rw [q]
    cases x == y with
    | true => exact .inr ⟨g, e.val, rfl, rfl, h3⟩
    | false => exact ih
theorem mapOf_L {prog : Program} {w : World} {s : Shared} {h₀ : Heap} {L : Addr} {loc : Loc} {ah : AH} {φ : Phi} {N : Led} {m : Str → Option Value} (I : Li K w.params h₀ L loc ah φ N m s.heap) {r : Rf} {ks : List (Str × GV)} {v : Value} (h1 : ah.get r = some (.dict ks)) (hv : V K φ N (.obj r) v)
    (X₀ : K.In h₀) (md : ∃ o, K.lookup sysModules = some o) : ∃ a es, v = .ref a ∧ (a == sysModules) = false ∧ Es K w.params φ N ks es ∧ s.heap.MapOf (strKind prog w) a (fun k => PySem.findBy Value.isStrOf es.toArray k) := by
  obtain ⟨p, es, k, hp, rfl, hm, he⟩ := I.dict h1 hv
  have z := I.nw _ hm
  refine ⟨_, es, rfl, ?_, he, ?_⟩
  · refine beq_eq_false_iff_ne.mpr fun e => ?_
    obtain ⟨o, ho⟩ := md
    have this : h₀.get? p.1 = none := z.2.2
    rw [e, X₀ _ _ ho] at this
    cases this
  · exact ⟨_, es.toArray, k, z.1, ⟨rfl, rfl, rfl⟩, rfl, fun e he' => by
      obtain ⟨x, t, e1, e2⟩ := (Es.keysLit he).all e (Array.mem_toList_iff.mpr he')
      exact ⟨x, by rw [e1]; exact strKind_is prog w x t, e2⟩, fun _ => rfl⟩
end
end Mine
end

section
set_option maxRecDepth 100000
set_option autoImplicit false
set_option linter.unusedVariables false
set_option tactic.hygienic false
namespace Mine
open PySem PySem.W PySem.Calls PyProof.Rows

section
variable {K : Frag} {P : Pr} {n : Nat}

theorem any_comm_beq {l : List Str} {x : Str} : l.any (· == x) = l.any (x == ·) := by
  congr 1; funext y; exact beq_comm_str y x
theorem wv_ints {op : CmpOp} {i j : Int} {b : Bool} {ah : AH}
    (r : ∀ {prog : Program} {w : World} {A : Around} {E : Value → Shared → Prop} {s : Shared} {t u : Tok} {Q : Value → Shared → Prop}, Q (.bool b) s → wpAny (model prog w) A (compareOp op (.int i t) (.int j u)) Q E s) :
    Wv K n [.int i, .int j] (t2 (compareOp op)) ah (isB b) ah := by
  intro prog w A E s h₀ env sc loc φ N m vs Q C I hv k
  obtain ⟨v, u, rfl, h1, h2⟩ := Vs.two_inv hv
  obtain ⟨t, rfl⟩ := V.int_inv h1
  obtain ⟨t', rfl⟩ := V.int_inv h2
  exact r (k _ _ _ _ _ I (Ext.refl ..) rfl)
theorem wv_strs {op : CmpOp} {i j : Str} {b : Bool} {ah : AH}
    (r : ∀ {prog : Program} {w : World} {A : Around} {E : Value → Shared → Prop} {s : Shared} {t u : Tok} {Q : Value → Shared → Prop}, Q (.bool b) s → wpAny (model prog w) A (compareOp op (.str i t) (.str j u)) Q E s) :
    Wv K n [.str i, .str j] (t2 (compareOp op)) ah (isB b) ah := by
  intro prog w A E s h₀ env sc loc φ N m vs Q C I hv k
  obtain ⟨v, u, rfl, h1, h2⟩ := Vs.two_inv hv
  obtain ⟨t, rfl⟩ := V.str_inv h1
  obtain ⟨t', rfl⟩ := V.str_inv h2
  exact r (k _ _ _ _ _ I (Ext.refl ..) rfl)
theorem wv_isNone {g : GV} {b : Bool} {ah : AH} (e : ∀ φ N v, V K φ N g v → (v == Value.none) = b) : Wv K n [g, .none] (t2 (compareOp .Is)) ah (isB b) ah := by
  intro prog w A E s h₀ env sc loc φ N m vs Q C I hv k
  obtain ⟨v, u, rfl, h1, h2⟩ := Vs.two_inv hv
  have h2 : u = .none := h2
  subst h2
  exact is_none (k _ _ _ _ _ I (Ext.refl ..) (congrArg Value.bool (e _ _ _ h1)))
theorem wv_isNotNone {g : GV} {b : Bool} {ah : AH} (e : ∀ φ N v, V K φ N g v → (!(v == Value.none)) = b) : Wv K n [g, .none] (t2 (compareOp .IsNot)) ah (isB b) ah := by
  intro prog w A E s h₀ env sc loc φ N m vs Q C I hv k
  obtain ⟨v, u, rfl, h1, h2⟩ := Vs.two_inv hv
  have h2 : u = .none := h2
  subst h2
  exact isNot_none (k _ _ _ _ _ I (Ext.refl ..) (congrArg Value.bool (e _ _ _ h1)))
theorem obj_not_none {r : Rf} (φ : Phi) (N : Led) (v : Value) (h : V K φ N (.obj r) v) : (v == Value.none) = false := by
  obtain ⟨a, rfl⟩ := V.obj_inv h; rfl
theorem wv_inTup {x : Str} {ys : List GV} {l : List Str} {ah : AH} (e : cmp.strs? ys = some l) : Wv K n [.str x, .tup ys] (t2 (compareOp .In)) ah (isB (l.any (x == ·))) ah := by
  intro prog w A E s h₀ env sc loc φ N m vs Q C I hv k
  obtain ⟨v, u, rfl, h1, h2⟩ := Vs.two_inv hv
  obtain ⟨t, rfl⟩ := V.str_inv h1
  obtain ⟨ad, ws, rfl, hx, T⟩ := I.tup C.kin h2
  exact in_tuple_strs T (strs_are e hx) (by rw [any_comm_beq]; exact k _ _ _ _ _ I (Ext.refl ..) rfl)
theorem wv_ninTup {x : Str} {ys : List GV} {l : List Str} {ah : AH} (e : cmp.strs? ys = some l) : Wv K n [.str x, .tup ys] (t2 (compareOp .NotIn)) ah (isB (!l.any (x == ·))) ah := by
  intro prog w A E s h₀ env sc loc φ N m vs Q C I hv k
  obtain ⟨v, u, rfl, h1, h2⟩ := Vs.two_inv hv
  obtain ⟨t, rfl⟩ := V.str_inv h1
  obtain ⟨ad, ws, rfl, hx, T⟩ := I.tup C.kin h2
  exact notin_tuple_strs T (strs_are e hx) (by rw [any_comm_beq]; exact k _ _ _ _ _ I (Ext.refl ..) rfl)
theorem Es.some_eq {Q : Params} {φ : Phi} {N : Led} {x : Str} {ks : List (Str × GV)} {es : List DictEntry} (h : Es K Q φ N ks es) : (PySem.findBy Value.isStrOf es.toArray x).isSome = (ks.lookup x).isSome := by
  rcases h.findBy (x := x) with ⟨q1, q2⟩ | ⟨g, v, q1, q2, _⟩ <;> rw [q1, q2] <;> rfl
theorem wv_inDict (OK : PrOK K P) {x : Str} {r : Rf} {ks : List (Str × GV)} {ah : AH} (e : ah.get r = some (.dict ks)) : Wv K n [.str x, .obj r] (t2 (compareOp .In)) ah (isB (ks.lookup x).isSome) ah := by
  intro prog w A E s h₀ env sc loc φ N m vs Q C I hv k
  obtain ⟨v, u, rfl, h1, h2⟩ := Vs.two_inv hv
  obtain ⟨t, rfl⟩ := V.str_inv h1
  obtain ⟨ad, es, rfl, lo, he, M⟩ := mapOf_L (prog := prog) I e h2 C.kin OK.md
  exact wpAny_in_of (strKind_is prog w x t) lo M (k _ _ _ _ _ I (Ext.refl ..) (congrArg Value.bool he.some_eq))
theorem wv_ninDict (OK : PrOK K P) {x : Str} {r : Rf} {ks : List (Str × GV)} {ah : AH} (e : ah.get r = some (.dict ks)) : Wv K n [.str x, .obj r] (t2 (compareOp .NotIn)) ah (isB (!(ks.lookup x).isSome)) ah := by
  intro prog w A E s h₀ env sc loc φ N m vs Q C I hv k
  obtain ⟨v, u, rfl, h1, h2⟩ := Vs.two_inv hv
  obtain ⟨t, rfl⟩ := V.str_inv h1
  obtain ⟨ad, es, rfl, lo, he, M⟩ := mapOf_L (prog := prog) I e h2 C.kin OK.md
  exact wpAny_notIn_of (strKind_is prog w x t) lo M (k _ _ _ _ _ I (Ext.refl ..) (congrArg (fun b => Value.bool (!b)) he.some_eq))
theorem wv_inEmpty (OK : PrOK K P) {i : Int} {r : Rf} {ah : AH} (e : ah.get r = some (.dict [])) : Wv K n [.int i, .obj r] (t2 (compareOp .In)) ah (isB false) ah := by
  intro prog w A E s h₀ env sc loc φ N m vs Q C I hv k
  obtain ⟨v, u, rfl, h1, h2⟩ := Vs.two_inv hv
  obtain ⟨t, rfl⟩ := V.int_inv h1
  obtain ⟨ad, es, rfl, lo, he, M⟩ := mapOf_L (prog := prog) I e h2 C.kin OK.md
  have he : es = [] := he
  subst he
  obtain ⟨o, es', ep, q1, q2, q3, q4, q5⟩ := id M
  obtain ⟨p, es2, n2, hp, hv2, hm, he2⟩ := I.dict e h2
  cases hv2
  have he2 : es2 = [] := he2
  subst he2
  have M' : s.heap.MapOf (intKind prog w) p.1 (fun k => PySem.findBy Value.isInt #[] k) := ⟨_, #[], n2, (I.nw _ hm).1, ⟨rfl, rfl, rfl⟩, rfl, fun e he => by simp at he, fun _ => rfl⟩
  exact wpAny_in_of (intKind_is prog w i t) lo M' (k _ _ _ _ _ I (Ext.refl ..) rfl)

theorem ints_are {φ : Phi} {N : Led} : ∀ {ys : List Int} {vs : List Value}, Vs K φ N (ys.map GV.int) vs → IntsAre vs ys
  | [], vs, h => by
    have h : vs = [] := h
    subst h; exact .nil
  | y :: ys, vs, h => by
    obtain ⟨v, r, rfl, ⟨t, rfl⟩, h2⟩ := h
    exact .cons y t (ints_are h2)
theorem wv_inList {i : Int} {r : Rf} {ah : AH} {xs : List GV} {b : Bool} (e : ah.get r = some (.list xs)) (hb : memI i xs = some b) : Wv K n [.int i, .obj r] (t2 (compareOp .In)) ah (isB b) ah := by
  intro prog w A E s h₀ env sc loc φ N m vs Q C I hv k
  obtain ⟨v, u, rfl, h1, h2⟩ := Vs.two_inv hv
  obtain ⟨t, rfl⟩ := V.int_inv h1
  obtain ⟨p, ws, c, hp, rfl, hm, hx, L⟩ := I.list e h2
  obtain ⟨ys, rfl, rfl⟩ := memI_spec hb
  exact in_list_ints L (ints_are hx) (k _ _ _ _ _ I (Ext.refl ..) rfl)

theorem wv_eq2 {x y z u : Str} {ah : AH} (x1 : PyData.strOk x = true) (y1 : PyData.strOk y = true) (z1 : PyData.strOk z = true) (u1 : PyData.strOk u = true) :
    Wv K n [.tup [.str x, .str y], .tup [.str z, .str u]] (t2 (compareOp .Eq)) ah (isB (x == z && y == u)) ah := by
  intro prog w A E s h₀ env sc loc φ N m vs Q C I hv k
  obtain ⟨v, u', rfl, h1, h2⟩ := Vs.two_inv hv
  obtain ⟨⟨as, r1⟩, c1, d1⟩ := flat_reads C.kin I _ _ 1 h1 (by simp [flatG, flatL, x1, y1])
  obtain ⟨⟨bs, r2⟩, c2, d2⟩ := flat_reads C.kin I _ _ 1 h2 (by simp [flatG, flatL, z1, u1])
  refine PySem.SeqAt.compareEq_reads r1 r2 c1 c2 (by have := C.units; have : cLine = 9900 := rfl; omega) (k _ _ _ _ _ I (Ext.refl ..) ?_)
  show Value.bool _ = Value.bool _
  congr 1
  simp [dat, datL, PyData.eqv, PyData.eqvAll]
theorem wv_neTup {xs : List GV} {ah : AH} (f : flatL xs 50 = true) : Wv K n [.tup xs, .tup xs] (t2 (compareOp .NotEq)) ah (isB false) ah := by
  intro prog w A E s h₀ env sc loc φ N m vs Q C I hv k
  obtain ⟨v, u', rfl, h1, h2⟩ := Vs.two_inv hv
  obtain ⟨⟨as, r1⟩, c1, d1⟩ := flat_reads C.kin I _ _ 51 h1 (by simpa [flatG] using f)
  obtain ⟨⟨bs, r2⟩, c2, d2⟩ := flat_reads C.kin I _ _ 51 h2 (by simpa [flatG] using f)
  refine PySem.SeqAt.compareNe_reads r1 r2 c1 c2 (by have := C.units; have : cLine = 9900 := rfl; omega) (k _ _ _ _ _ I (Ext.refl ..) ?_)
  show Value.bool _ = Value.bool _
  rw [PySem.SeqAt.eqv_refl _ c1]; rfl
theorem wv_neList {r r2 : Rf} {xs : List GV} {ah : AH} (e : ah.get r = some (.list xs)) (e2 : ah.get r2 = some (.list xs)) (f : flatL xs 50 = true) : Wv K n [.obj r, .obj r2] (t2 (compareOp .NotEq)) ah (isB false) ah := by
  intro prog w A E s h₀ env sc loc φ N m vs Q C I hv k
  obtain ⟨v, u', rfl, h1, h2⟩ := Vs.two_inv hv
  obtain ⟨p, ws, c, hp, rfl, hm, hx, L⟩ := I.list e h1
  obtain ⟨p', ws', c', hp', rfl, hm', hx', L'⟩ := I.list e2 h2
  obtain ⟨⟨as, r1⟩, c1, d1⟩ := flat_readsL C.kin I _ _ 50 hx f
  obtain ⟨⟨bs, r2⟩, c2, d2⟩ := flat_readsL C.kin I _ _ 50 hx' f
  have R1 : Reads s.heap (.ref p.1) (.list (datL xs)) (p.1 :: as) := .list (I.nw _ hm).1 rfl rfl r1
  have R2 : Reads s.heap (.ref p'.1) (.list (datL xs)) (p'.1 :: bs) := .list (I.nw _ hm').1 rfl rfl r2
  have cc : (PyData.list (datL xs)).canLay0 = true := by simpa [PyData.canLay0] using c1
  refine PySem.SeqAt.compareNe_reads R1 R2 cc cc (by have := C.units; have : cLine = 9900 := rfl; simp [PyData.depth]; omega) (k _ _ _ _ _ I (Ext.refl ..) ?_)
  show Value.bool _ = Value.bool _
  rw [PySem.SeqAt.eqv_refl _ cc]; rfl
theorem wv_neNil {r r2 : Rf} {xs : List GV} {ah : AH} (e : ah.get r = some (.list xs)) (e2 : ah.get r2 = some (.list [])) : Wv K n [.obj r, .obj r2] (t2 (compareOp .NotEq)) ah (isB (!xs.isEmpty)) ah := by
  intro prog w A E s h₀ env sc loc φ N m vs Q C I hv k
  obtain ⟨v, u', rfl, h1, h2⟩ := Vs.two_inv hv
  obtain ⟨p, ws, c, hp, rfl, hm, hx, L⟩ := I.list e h1
  obtain ⟨p', ws', c', hp', rfl, hm', hx', L'⟩ := I.list e2 h2
  have hx' : ws' = [] := hx'
  subst hx'
  have hu : A.units < cLine := by have := C.units; have : cLine = 9900 := rfl; omega
  cases xs with
  | nil =>
    have hx : ws = [] := hx
    subst hx
    exact PySem.SeqAt.RcNeAt.lists (e := fun _ => true) L L' rfl hu (fun j h1 => absurd h1 (Nat.not_lt_zero _)) prog w E Q (k _ _ _ _ _ I (Ext.refl ..) rfl)
  | cons x xs =>
    obtain ⟨a, r, rfl, _, _⟩ := hx
    exact PySem.SeqAt.RcNeAt.lists_lengths L L' (by simp) hu prog w E Q (k _ _ _ _ _ I (Ext.refl ..) rfl)
theorem str2_inv : ∀ {xs : List GV} {p : Str × Str}, str2 xs = some p → xs = [.str p.1, .str p.2]
  | [], _, h => by cases h
  | a :: r, p, h => by
    cases a with
    | str x =>
      cases r with
      | nil => cases h
      | cons b r =>
        cases b with
        | str y =>
          cases r with
          | nil => cases h; rfl
          | cons => cases h
        | _ => cases h
    | _ => cases h
/-- what is to be shown of a comparison -/
noncomputable def CmpR (K : Frag) (n : Nat) (op : CmpOp) (a b : GV) (x : R Bool) (st : St) : Prop := ∀ (c : List Prop) (r : Bool) (st' : St), x = some (c, r, st') → AllP c → Same st st' ∧ Wv K n [a, b] (t2 (compareOp op)) st.ah (isB r) st'.ah
theorem CmpR.rp {op : CmpOp} {a b : GV} {v : Bool} {st : St} (e : Wv K n [a, b] (t2 (compareOp op)) st.ah (isB v) st.ah) : CmpR K n op a b (rp v st) st := fun _ _ _ h _ => by
  cases h; exact ⟨Same.refl _, e⟩
theorem CmpR.none {op : CmpOp} {a b : GV} {st : St} : CmpR K n op a b none st := fun _ _ _ h _ => by cases h
theorem CmpR.need {op : CmpOp} {a b : GV} {q : Prop} {f : Unit → St → R Bool} {st : St} (e : q → CmpR K n op a b (f () st) st) : CmpR K n op a b (rb (need q st) f) st := fun _ _ _ h hc =>
  rb_elim h hc fun _ _ _ _ h1 h2 hc => by
    obtain ⟨p, rfl⟩ := need_inv h1 hc.left
    exact e p _ _ _ h2 hc.right
theorem CmpR.deref {op : CmpOp} {a b : GV} {r : Rf} {f : AO → St → R Bool} {st : St} (e : ∀ o st₁, st.ah.get r = some o → Same st st₁ → CmpR K n op a b (f o st₁) st₁) : CmpR K n op a b (rb (deref r st) f) st := fun _ _ _ h hc =>
  rb_elim h hc fun _ _ _ _ h1 h2 hc => by
    obtain ⟨p, S⟩ := deref_inv h1 hc.left
    obtain ⟨S2, w⟩ := e _ _ p S _ _ _ h2 hc.right
    exact ⟨S.trans S2, S.2 ▸ w⟩
theorem cmpI_ok {op : CmpOp} {f : Int → Int → Bool} {a b : GV} {st : St} (r : ∀ {i j : Int} {prog : Program} {w : World} {A : Around} {E : Value → Shared → Prop} {s : Shared} {t u : Tok} {Q : Value → Shared → Prop}, Q (.bool (f i j)) s → wpAny (model prog w) A (compareOp op (.int i t) (.int j u)) Q E s) : CmpR K n op a b (cmpI f a b st) st := by
  cases a with
  | int i => cases b with
    | int j => exact CmpR.rp (wv_ints r)
    | _ => exact CmpR.none
  | _ => exact CmpR.none
theorem cmpS_ok {op : CmpOp} {f : Str → Str → Bool} {x : Str} {b : GV} {st : St} (r : ∀ {x y : Str} {prog : Program} {w : World} {A : Around} {E : Value → Shared → Prop} {s : Shared} {t u : Tok} {Q : Value → Shared → Prop}, Q (.bool (f x y)) s → wpAny (model prog w) A (compareOp op (.str x t) (.str y u)) Q E s) : CmpR K n op (.str x) b (cmpS f x b st) st := by
  cases b with
  | str j => exact CmpR.rp (wv_strs r)
  | _ => exact CmpR.none
theorem eqT_ok {xs : List GV} {b : GV} {st : St} : CmpR K n .Eq (.tup xs) b (eqT xs b st) st := by
  cases b with
  | tup ys =>
    unfold eqT
    dsimp only
    cases q : str2 xs with
    | none => exact CmpR.none
    | some p => cases q2 : str2 ys with
      | none => exact CmpR.none
      | some p2 =>
        rw [str2_inv q, str2_inv q2]
        dsimp only
        cases z : PyData.strOk p2.1 && PyData.strOk p2.2 with
        | false => exact CmpR.none
        | true =>
          obtain ⟨z1, z2⟩ := Bool.and_eq_true_iff.mp z
          exact CmpR.need fun x => CmpR.rp (wv_eq2 x.1 x.2 z1 z2)
  | _ => exact CmpR.none
theorem neL_ok {r r2 : Rf} {o o2 : AO} {st : St} (g1 : st.ah.get r = some o) (g2 : st.ah.get r2 = some o2) : CmpR K n .NotEq (.obj r) (.obj r2) (neL o o2 st) st := by
  cases o with
  | list xs => cases o2 with
    | list ys =>
      show CmpR K n _ _ _ (neL2 xs ys st) st
      unfold neL2
      cases hintM st.hs with
      | some r =>
        intro c b st' h hc
        cases h
        obtain ⟨rfl, x2⟩ := hc.one
        exact ⟨⟨rfl, rfl⟩, wv_neList g1 g2 x2⟩
      | none => cases ys with
        | nil => exact CmpR.rp (wv_neNil g1 g2)
        | cons => exact CmpR.none
    | _ => exact CmpR.none
  | _ => exact CmpR.none
theorem cmpIs_none {a : GV} {st : St} : CmpR K n .Is a .none (cmpIs true a .none st) st := by
  cases a with
  | none => exact CmpR.rp (wv_isNone fun φ N v h => by have h : v = .none := h; subst h; rfl)
  | obj r => exact CmpR.rp (wv_isNone obj_not_none)
  | _ => exact CmpR.none
theorem cmpIs_not {a : GV} {st : St} : CmpR K n .IsNot a .none (cmpIs false a .none st) st := by
  cases a with
  | none => exact CmpR.rp (wv_isNotNone fun φ N v h => by have h : v = .none := h; subst h; rfl)
  | obj r => exact CmpR.rp (wv_isNotNone fun φ N v h => by rw [obj_not_none φ N v h])
  | _ => exact CmpR.none
theorem inS_in (OK : PrOK K P) {x : Str} {b : GV} {st : St} : CmpR K n .In (.str x) b (inS true x b st) st := by
  cases b with
  | tup ys =>
    show CmpR K n _ _ _ (inT true x ys st) st
    unfold inT
    cases q : cmp.strs? ys with
    | none => exact CmpR.none
    | some l => exact CmpR.rp (wv_inTup q)
  | obj r => exact CmpR.deref fun o st₁ g1 S => (by
    cases o with
    | dict ks => exact CmpR.rp (wv_inDict OK (S.2 ▸ g1))
    | _ => exact CmpR.none)
  | _ => exact CmpR.none
theorem inS_nin (OK : PrOK K P) {x : Str} {b : GV} {st : St} : CmpR K n .NotIn (.str x) b (inS false x b st) st := by
  cases b with
  | tup ys =>
    show CmpR K n _ _ _ (inT false x ys st) st
    unfold inT
    cases q : cmp.strs? ys with
    | none => exact CmpR.none
    | some l => exact CmpR.rp (wv_ninTup q)
  | obj r => exact CmpR.deref fun o st₁ g1 S => (by
    cases o with
    | dict ks => exact CmpR.rp (wv_ninDict OK (S.2 ▸ g1))
    | _ => exact CmpR.none)
  | _ => exact CmpR.none
theorem inL_ok (OK : PrOK K P) {x : Int} {r : Rf} {o : AO} {st : St} (g : st.ah.get r = some o) : CmpR K n .In (.int x) (.obj r) (inL x o st) st := by
  cases o with
  | dict ks => cases ks with
    | nil => exact CmpR.rp (wv_inEmpty OK g)
    | cons => exact CmpR.none
  | list xs =>
    intro c b st' h hc
    obtain ⟨e, S2⟩ := mem_inv h hc
    exact ⟨S2, by rw [S2.2]; exact wv_inList g e⟩
  | _ => exact CmpR.none
theorem cmpAll (OK : PrOK K P) {op : CmpOp} {a b : GV} {st : St} : CmpR K n op a b (cmp op a b st) st := by
  cases op with
  | Eq => cases a with
    | int i => exact cmpI_ok fun h => PyProof.Rows.eq_int h
    | str x => exact cmpS_ok fun h => PyProof.Rows.eq_str h
    | tup xs => exact eqT_ok
    | _ => exact CmpR.none
  | NotEq => cases a with
    | int i => exact cmpI_ok fun h => PyProof.Rows.ne_int h
    | str x => exact cmpS_ok fun h => PyProof.Rows.ne_str h
    | tup xs => cases b with
      | tup ys => exact (CmpR.need fun x => x.1 ▸ CmpR.rp (wv_neTup x.2) : CmpR K n .NotEq (.tup xs) (.tup ys) (rb (need (xs = ys ∧ flatL xs 50 = true) st) fun _ st => rp false st) st)
      | _ => exact CmpR.none
    | obj r => cases b with
      | obj r2 => exact CmpR.deref fun o st₁ g1 S => CmpR.deref fun o2 st₂ g2 S2 => neL_ok (by rw [S2.2, S.2]; exact g1) (by rw [S2.2]; exact g2)
      | _ => exact CmpR.none
    | _ => exact CmpR.none
  | Lt => exact cmpI_ok fun h => PyProof.Rows.lt_int h
  | LtE => cases a with
    | int i => exact cmpI_ok fun h => PyProof.Rows.le_int h
    | str x => exact cmpS_ok fun h => PySem.P.le_str h
    | _ => exact CmpR.none
  | Gt => exact cmpI_ok fun h => PyProof.Rows.gt_int h
  | GtE => exact cmpI_ok fun h => PyProof.Rows.ge_int h
  | Is => cases b with
    | none => exact cmpIs_none
    | _ => exact CmpR.none
  | IsNot => cases b with
    | none => exact cmpIs_not
    | _ => exact CmpR.none
  | In => cases a with
    | str x => exact inS_in OK
    | int x => cases b with
      | obj r => exact CmpR.deref fun o st₁ g1 S => inL_ok OK (S.2 ▸ g1)
      | _ => exact CmpR.none
    | _ => exact CmpR.none
  | NotIn => cases a with
    | str x => exact inS_nin OK
    | _ => exact CmpR.none
theorem snd_cmp (OK : PrOK K P) {op : CmpOp} {a b : GV} {st st' : St} {c : List Prop} {r : Bool} (h : cmp op a b st = some (c, r, st')) (hc : AllP c) : Same st st' ∧ Wv K n [a, b] (t2 (compareOp op)) st.ah (isB r) st'.ah :=
  cmpAll OK _ _ _ h hc

theorem snd_truthy {g : GV} {st st' : St} {c : List Prop} {b : Bool} (h : truthyG g st = some (c, b, st')) (hc : AllP c) : Same st st' ∧ Wv K n [g] (t1 truthy) st.ah (isD b) st'.ah := by
  unfold truthyG at h
  split at h
  · cases h
    refine ⟨Same.refl _, ?_⟩
    intro prog w A E s h₀ env sc loc φ N m vs Q C I hv k
    obtain ⟨v, rfl, h1⟩ := Vs.one_inv hv
    have h1 : v = .bool b := h1
    subst h1
    exact wpAny_truthy_bool (k _ _ _ _ _ I (Ext.refl ..) rfl)
  · apply rb_elim h hc
    clear h hc
    intro c₁ o st₁ c₂ h1 h2 hc
    obtain ⟨g1, S⟩ := deref_inv h1 hc.left
    split at h2
    · cases h2
      refine ⟨S, ?_⟩
      rw [S.2]
      intro prog w A E s h₀ env sc loc φ N m vs Q C I hv k
      obtain ⟨v, rfl, h1⟩ := Vs.one_inv hv
      exact r_truthyL I g1 h1 (by have := I.hr.sz _ _ g1; change _ ≤ _ at this; omega) fun tk => k _ _ _ _ _ I (Ext.refl ..) rfl
    · cases h2
  · cases h
end
end Mine
end

section
set_option maxRecDepth 100000
set_option autoImplicit false
set_option linter.unusedVariables false
set_option tactic.hygienic false
namespace Mine
open PySem PySem.W PySem.Calls PyProof.Rows

section
variable {K : Frag} {P : Pr} {n : Nat}

theorem Ext.list {prog : Program} {w : World} {A : Around} {s : Shared} {h₀ : Heap} {env : Env} {φ : Phi} {ah : AH} {N : Led} : True := trivial

theorem seqIndex_nat {k n : Nat} (h : k < n) : seqIndex? (k : Int) n = some k := by
  unfold seqIndex?
  dsimp only
  have h0 : ¬ ((k : Int) < 0) := by omega
  rw [if_neg h0]
  simp [h0, h]

/-- what is to be shown of a reading -/
noncomputable def GiR (K : Frag) (n : Nat) (a b : GV) (x : R GV) (st : St) : Prop := ∀ (c : List Prop) (g : GV) (st' : St), x = some (c, g, st') → AllP c → Same st st' ∧ Wv K n [a, b] (t2 getItem) st.ah (rV K g) st'.ah
theorem GiR.none {a b : GV} {st : St} : GiR K n a b none st := fun _ _ _ h _ => none_ne h
theorem GiR.deref {a b : GV} {r : Rf} {f : AO → St → R GV} {st : St} (e : ∀ o st₁, st.ah.get r = some o → Same st st₁ → GiR K n a b (f o st₁) st₁) : GiR K n a b (rb (deref r st) f) st := fun _ _ _ h hc =>
  rb_elim h hc fun _ _ _ _ h1 h2 hc => by
    obtain ⟨p, S⟩ := deref_inv h1 hc.left
    obtain ⟨S2, w⟩ := e _ _ p S _ _ _ h2 hc.right
    exact ⟨S.trans S2, S.2 ▸ w⟩
theorem sz_ok {φ : Phi} {N : Led} {ah : AH} {P : Params} {h₀ h : Heap} {L : Addr} {loc : Loc} {m : Str → Option Value} {r : Rf} {xs : List GV} (I : Li K P h₀ L loc ah φ N m h) (e : ah.get r = some (.list xs)) : xs.length ≤ 1048576 := by
  have := I.hr.sz _ _ e
  change _ ≤ _ at this
  omega
theorem wv_getL {r : Rf} {xs : List GV} {k : Nat} {g : GV} {ah : AH} (g1 : ah.get r = some (.list xs)) (e : xs[k]? = some g) : Wv K n [.obj r, .int (Int.ofNat k)] (t2 getItem) ah (rV K g) ah := by
  intro prog w A E s h₀ env sc loc φ N m vs Q C I hv kk
  obtain ⟨v, u, rfl, v1, v2⟩ := Vs.two_inv hv
  exact r_getL I g1 v1 v2 (Int.natCast_nonneg k) (sz_ok I g1) (by simpa using e) fun u hu => kk _ _ _ _ _ I (Ext.refl ..) hu
theorem wv_getLast {r : Rf} {xs : List GV} {g : GV} {ah : AH} (g1 : ah.get r = some (.list (xs ++ [g]))) : Wv K n [.obj r, .int (-1)] (t2 getItem) ah (rV K g) ah := by
  intro prog w A E s h₀ env sc loc φ N m vs Q C I hv kk
  obtain ⟨v, u, rfl, v1, v2⟩ := Vs.two_inv hv
  have e1 : (xs ++ [g]).length = xs.length + 1 := List.length_append
  refine r_getLneg I g1 v1 v2 (by decide) (by rw [e1]; omega) (sz_ok I g1) ?_ fun u hu => kk _ _ _ _ _ I (Ext.refl ..) hu
  have : (-1 + ((xs ++ [g]).length : Int)).toNat = xs.length := by rw [e1]; omega
  rw [this]
  exact List.getElem?_concat_length
theorem getL_ok {r : Rf} {xs : List GV} {j : Int} {st : St} (g1 : st.ah.get r = some (.list xs)) : GiR K n (.obj r) (.int j) (getL xs j st) st := by
  cases j with
  | ofNat k =>
    intro c g st' h hc
    obtain ⟨e, S2⟩ := nth_inv h hc
    exact ⟨S2, by rw [S2.2]; exact wv_getL g1 e⟩
  | negSucc k => cases k with
    | zero =>
      intro c g st' h hc
      unfold getL at h
      apply rb_elim h hc
      clear h hc
      intro c₅ p st₃ c₆ h5 h6 hc
      obtain ⟨e, S2⟩ := lastOf_inv h5 hc.left
      cases h6
      rw [e] at g1
      exact ⟨S2, by rw [S2.2]; exact wv_getLast g1⟩
    | succ => exact GiR.none
theorem wv_getD (OK : PrOK K P) {r : Rf} {ks : List (Str × GV)} {x : Str} {g : GV} {ah : AH} (g1 : ah.get r = some (.dict ks)) (e : ks.lookup x = some g) : Wv K n [.obj r, .str x] (t2 getItem) ah (rV K g) ah := by
  intro prog w A E s h₀ env sc loc φ N m vs Q C I hv kk
  obtain ⟨v, u, rfl, v1, v2⟩ := Vs.two_inv hv
  obtain ⟨t, rfl⟩ := V.str_inv v2
  obtain ⟨ad, es, rfl, lo, he, M⟩ := mapOf_L (prog := prog) I g1 v1 C.kin OK.md
  rcases he.findBy (x := x) with ⟨q1, q2⟩ | ⟨g', v, q1, q2, q3⟩
  · rw [q1] at e; cases e
  · rw [q1] at e; cases e
    exact wpAny_getItem_of (strKind_is prog w x t) M q2 (kk _ _ _ _ _ I (Ext.refl ..) q3)
theorem some_lt {α : Type} {xs : List α} {k : Nat} {g : α} (e : xs[k]? = some g) : k < xs.length := by
  rcases Nat.lt_or_ge k xs.length with q | q
  · exact q
  · rw [List.getElem?_eq_none q] at e; cases e
theorem natOf_inv {j : Int} {k : Nat} (h : natOf j = some k) : j = Int.ofNat k ∧ k < 1000000 := by
  cases j with
  | ofNat i =>
    unfold natOf at h
    dsimp only at h
    cases q : Nat.blt i 1000000 with
    | false => rw [q] at h; exact none_ne h
    | true => rw [q] at h; cases h; exact ⟨rfl, blt_lt q⟩
  | negSucc => exact none_ne h
theorem wv_getT {xs : List GV} {k : Nat} {g : GV} {ah : AH} (hk : k < 1000000) (e : xs[k]? = some g) : Wv K n [.tup xs, .int (Int.ofNat k)] (t2 getItem) ah (rV K g) ah := by
  intro prog w A E s h₀ env sc loc φ N m vs Q C I hv kk
  obtain ⟨v, u, rfl, v1, v2⟩ := Vs.two_inv hv
  exact r_getT C.kin I v1 v2 (q := k) (by show (-(2 ^ 63) : Int) ≤ (k : Int); omega) (by show (k : Int) < _; omega) (seqIndex_nat (some_lt e)) e fun u hu => kk _ _ _ _ _ I (Ext.refl ..) hu
theorem wv_getS {x : Str} {k : Nat} {c : Nat} {ah : AH} (hk : k < 1000000) (e : x.cps[k]? = some c) : Wv K n [.str x, .int (Int.ofNat k)] (t2 getItem) ah (rV K (.str ⟨#[c]⟩)) ah := by
  intro prog w A E s h₀ env sc loc φ N m vs Q C I hv kk
  obtain ⟨v, u, rfl, v1, v2⟩ := Vs.two_inv hv
  obtain ⟨t, rfl⟩ := V.str_inv v1
  obtain ⟨t', rfl⟩ := V.int_inv v2
  have hl : k < x.length := by
    rcases Nat.lt_or_ge k x.cps.size with q | q
    · exact q
    · rw [Array.getElem?_eq_none q] at e; cases e
  refine PySem.P.getItem_str (c := _) (by show (decide ((k : Int) < -(2 ^ 63 : Int)) || decide ((k : Int) ≥ 2 ^ 63)) = false; simp; omega) ?_ (kk _ _ _ _ _ I (Ext.refl ..) ⟨_, rfl⟩)
  show (seqIndex? (k : Int) x.length).bind (x.cps[·]?) = _
  rw [seqIndex_nat hl]
  exact e
theorem getItemR (OK : PrOK K P) {a b : GV} {st : St} : GiR K n a b (getItemG a b st) st := by
  cases a with
  | obj r => cases b with
    | int j => exact GiR.deref fun o st₁ g1 S => (by
        cases o with
        | list xs => exact getL_ok (S.2 ▸ g1)
        | _ => exact GiR.none)
    | str x => exact GiR.deref fun o st₁ g1 S => (by
        cases o with
        | dict ks => exact fun c g st' h hc => (by obtain ⟨e, rfl⟩ := getO_inv h; exact ⟨Same.refl _, wv_getD OK (S.2 ▸ g1) e⟩)
        | _ => exact GiR.none)
    | _ => exact GiR.none
  | tup xs => cases b with
    | int j =>
      show GiR K n _ _ (getTu xs j st) st
      unfold getTu
      cases q : natOf j with
      | none => exact GiR.none
      | some k =>
        obtain ⟨rfl, hk⟩ := natOf_inv q
        exact fun c g st' h hc => (by obtain ⟨e, rfl⟩ := getO_inv h; exact ⟨Same.refl _, wv_getT hk e⟩)
    | _ => exact GiR.none
  | str x => cases b with
    | int j =>
      show GiR K n _ _ (getS x j st) st
      unfold getS
      cases q : natOf j with
      | none => exact GiR.none
      | some k =>
        obtain ⟨rfl, hk⟩ := natOf_inv q
        dsimp only
        cases e : x.cps[k]? with
        | none => exact GiR.none
        | some c => exact fun _ g st' h hc => (by cases h; exact ⟨Same.refl _, wv_getS hk e⟩)
    | _ => exact GiR.none
  | _ => exact GiR.none
theorem snd_getItem (OK : PrOK K P) {a b : GV} {st st' : St} {c : List Prop} {g : GV} (h : getItemG a b st = some (c, g, st')) (hc : AllP c) : Same st st' ∧ Wv K n [a, b] (t2 getItem) st.ah (rV K g) st'.ah := getItemR OK _ _ _ h hc

theorem snd_setItem {a b g : GV} {st st' : St} {c : List Prop} {u₀ : Unit} (h : setItemG a b g st = some (c, u₀, st')) (hc : AllP c) : st'.loc = st.loc ∧ Wv K n [a, b, g] (t3 setItem) st.ah isU st'.ah := by
  cases a with
  | obj r => cases b with
    | int j =>
      unfold setItemG at h
      apply rb_elim h hc
      clear h hc
      intro c₁ o st₁ c₂ h1 h2 hc
      obtain ⟨g1, S⟩ := deref_inv h1 hc.left
      cases o with
      | list xs => cases j with
        | ofNat k =>
          unfold setLO at h2
          apply rb_elim h2 hc.right
          clear h2
          intro c₅ p st₃ c₆ h5 h6 hc2
          obtain ⟨e, rfl⟩ := need_inv h5 hc2.left
          cases h6
          refine ⟨S.1, ?_⟩
          unfold setAt
          dsimp only
          rw [S.2]
          clear h1 h5 hc hc2 S
          intro prog w A E s h₀ env sc loc φ N m vs Q C I hv kk
          obtain ⟨v, u, x, rfl, v1, v2, v3⟩ := Vs.three_inv hv
          exact r_setL I g1 v1 v2 v3 (Int.natCast_nonneg k) (by show (k : Int) < _; omega) (sz_ok I g1) fun N' h' tk I' X' => kk _ _ _ _ _ I' X' trivial
        | negSucc => exact none_ne h2
      | _ => exact none_ne h2
    | _ => exact none_ne h
  | _ => exact none_ne h
end
end Mine
end

section
set_option maxRecDepth 100000
set_option autoImplicit false
set_option linter.unusedVariables false
namespace Mine
open PySem PySem.W PySem.Calls PyProof.Rows

section
variable {prog : Program} {w : World} {A : Around} {E : Value → Shared → Prop} {s : Shared} {K : Frag} {h₀ : Heap} {L : Addr} {loc : Loc} {ah : AH} {φ : Phi} {N : Led} {m : Str → Option Value}

theorem Li.fresh (I : Li K w.params h₀ L loc ah φ N m s.heap) : s.heap.objs.size ∉ N.map (·.1) := fun h => by
  obtain ⟨p, hp, e⟩ := List.mem_map.mp h
  have := Heap.lt_size (I.nw p hp).1
  rw [e] at this
  exact Nat.lt_irrefl _ this
/-- one more object that is no changing one -/
theorem Li.more (I : Li K w.params h₀ L loc ah φ N m s.heap) {a : Addr} {o : Obj} {h' : Heap} (F' : Fr h₀ L h' m) (N' : News h₀ L h' ((a, o) :: N)) (fr : a ∉ N.map (·.1)) :
    Li K w.params h₀ L loc ah φ ((a, o) :: N) m h' ∧ Ext φ ah N φ ah ((a, o) :: N) ∧ Stay φ N φ ((a, o) :: N) := by
  obtain ⟨H, X, S⟩ := I.hr.more (N' := (a, o) :: N) (fun q hq => .tail _ hq) (by rw [List.map_cons, List.nodup_cons]; exact ⟨fr, I.hr.nd⟩)
  exact ⟨⟨F', N', H, I.lc.stay S⟩, X, S⟩
theorem Li.newTup (I : Li K w.params h₀ L loc ah φ N m s.heap) {gs : List GV} {vs : List Value} (hv : Vs K φ N gs vs) (hz : vs.length ≤ 1048576) {Q : Value → Shared → Prop}
    (k : ∀ N' v h' tk, Li K w.params h₀ L loc ah φ N' m h' → Ext φ ah N φ ah N' → V K φ N' (.tup gs) v → Q v ⟨h', s.gens, s.drawn, tk, s.os⟩) : wpAny (model prog w) A (newTuple vs) Q E s :=
  newTuple_N I.fr I.nw (fun h' F' N' => by
    obtain ⟨I', X, S⟩ := I.more F' N' I.fresh
    exact k _ _ _ _ I' X ⟨_, vs, rfl, .inl (.head _), Vs.stay S _ _ hv⟩) (line_le hz)
theorem Li.pushList (I : Li K w.params h₀ L loc ah φ N m s.heap) (q : Rg) {gs : List GV} {vs : List Value} {c : Nat} (hv : Vs K φ N gs vs) (hz : gs.length ≤ 1000000) {a : Addr} {h' : Heap} (F' : Fr h₀ L h' m) (N' : News h₀ L h' ((a, listOf vs.toArray c) :: N)) (fr : a ∉ N.map (·.1)) :
    Li K w.params h₀ L loc (ah.push q (.list gs)) (φ.push q (a, 0)) ((a, listOf vs.toArray c) :: N) m h' ∧ Ext φ ah N (φ.push q (a, 0)) (ah.push q (.list gs)) ((a, listOf vs.toArray c) :: N) ∧
      V K (φ.push q (a, 0)) ((a, listOf vs.toArray c) :: N) (.obj (ah.nx q)) (.ref a) := by
  obtain ⟨H, X, S⟩ := I.hr.push q (o := .list gs) (p := (a, 0)) (N' := (a, listOf vs.toArray c) :: N) (fun q hq => .tail _ hq) (by rw [List.map_cons, List.nodup_cons]; exact ⟨fr, I.hr.nd⟩)
    (fun b hb => by rw [List.mem_singleton.mp hb]; exact fr) (by simp [footO]) hz (fun S => ⟨vs, c, .head _, Vs.stay S _ _ hv⟩)
  refine ⟨⟨F', N', H, I.lc.stay S⟩, X, ?_⟩
  refine ⟨(a, 0), ?_, rfl⟩
  rw [← nx_eq I.hr.lc I.hr.ld I.hr.ln]
  exact T3.get_push_self φ q (a, 0)
theorem Li.newList (I : Li K w.params h₀ L loc ah φ N m s.heap) (q : Rg) {gs : List GV} {vs : List Value} (hv : Vs K φ N gs vs) (hz : vs.length ≤ 1000000) {Q : Value → Shared → Prop}
    (k : ∀ φ' N' v h' tk, Li K w.params h₀ L loc (ah.push q (.list gs)) φ' N' m h' → Ext φ ah N φ' (ah.push q (.list gs)) N' → V K φ' N' (.obj (ah.nx q)) v → Q v ⟨h', s.gens, s.drawn, tk, s.os⟩) : wpAny (model prog w) A (newList vs) Q E s :=
  newList_N I.fr I.nw (fun h' F' N' => by
    obtain ⟨I', X, hv'⟩ := I.pushList q hv (by rw [← hv.length]; exact hz) F' N' I.fresh
    exact k _ _ _ _ _ I' X hv') (line_le (by omega))
theorem Li.newDict (I : Li K w.params h₀ L loc ah φ N m s.heap) (q : Rg) {env : Env} {pos : Pos} {Q : Value → Shared → Prop}
    (k : ∀ φ' N' v h' tk, Li K w.params h₀ L loc (ah.push q (.dict [])) φ' N' m h' → Ext φ ah N φ' (ah.push q (.dict [])) N' → V K φ' N' (.obj (ah.nx q)) v → Q v ⟨h', s.gens, s.drawn, tk, s.os⟩) : wpAny (model prog w) A (eval (.Dict [] [] pos) env) Q E s := by
  refine wpAny_Dict_empty ?_
  have F' := I.fr.push (dictOf [] 0)
  have N' := News.push I.fr I.nw (dictOf [] 0)
  obtain ⟨H, X, S⟩ := I.hr.push q (o := .dict []) (p := (s.heap.objs.size, 0)) (N' := (s.heap.objs.size, dictOf [] 0) :: N) (fun q hq => .tail _ hq) (by rw [List.map_cons, List.nodup_cons]; exact ⟨I.fresh, I.hr.nd⟩)
    (fun b hb => by rw [List.mem_singleton.mp hb]; exact I.fresh) (by simp [footO]) trivial (fun S => ⟨[], 0, .head _, rfl⟩)
  refine k _ _ _ _ _ ⟨F', N', H, I.lc.stay S⟩ X ⟨(s.heap.objs.size, 0), ?_, rfl⟩
  rw [← nx_eq I.hr.lc I.hr.ld I.hr.ln]
  exact T3.get_push_self φ q _
end

section
variable {K : Frag} {P : Pr} {n : Nat}
theorem list_meth {r : Rf} {xs : List GV} {x : Str} {id : String} {ah : AH} (e : ah.get r = some (.list xs)) (slot : Slot "list" x id) (hty : typeOf (.builtin id) = pure (.type "method_descriptor"))
    {prog : Program} {w : World} {A : Around} {E : Value → Shared → Prop} {s : Shared} {h₀ : Heap} {L : Addr} {loc : Loc} {φ : Phi} {N : Led} {m : Str → Option Value} {v : Value} {pl : Sem Bool} {Q : Value × List Value → Shared → Prop}
    (I : Li K w.params h₀ L loc ah φ N m s.heap) (hv : V K φ N (.obj r) v) (k : Q (.builtin id, [v]) s) : wpAny (model prog w) A (getMethod v x pl) Q E s := by
  obtain ⟨p, vs, c, hp, rfl, hm, _, _⟩ := I.list e hv
  exact kl_method I.nw hm slot hty k
/-- the built-in of a list's method -/
noncomputable def listId (x : Str) : Option String :=
  if x = "pop" then some "list.pop" else if x = "append" then some "list.append" else if x = "insert" then some "list.insert" else none
theorem listId_slot {x : Str} {id : String} (h : listId x = some id) : Slot "list" x id ∧ typeOf (.builtin id) = pure (.type "method_descriptor") := by
  unfold listId at h
  split at h
  · rename_i e
    cases h; rw [e]; exact ⟨PySem.F.slot_list_pop, by rfl⟩
  · split at h
    · rename_i e
      cases h; rw [e]; exact ⟨PySem.F.slot_list_append, by rfl⟩
    · split at h
      · rename_i e
        cases h; rw [e]; exact ⟨PySem.F.slot_list_insert, by rfl⟩
      · cases h
theorem listId_pop : listId "pop" = some "list.pop" := by unfold listId; rw [if_pos rfl]
theorem listId_append : listId "append" = some "list.append" := by unfold listId; rw [if_neg (by decide), if_pos rfl]
theorem listId_insert : listId "insert" = some "list.insert" := by unfold listId; rw [if_neg (by decide), if_neg (by decide), if_pos rfl]
/-- what is to be shown of a method -/
noncomputable def MeR (K : Frag) (n : Nat) (r : Rf) (x : Str) (gs : List GV) (y : R GV) (st : St) : Prop := ∀ (c : List Prop) (g : GV) (st' : St), y = some (c, g, st') → AllP c → st'.loc = st.loc ∧ ∃ id, listId x = some id ∧ Wv K n (.obj r :: gs) (fun vs => call (.builtin id) vs) st.ah (rV K g) st'.ah
theorem MeR.none {r : Rf} {x : Str} {gs : List GV} {st : St} : MeR K n r x gs none st := fun _ _ _ h _ => none_ne h
theorem mPop_ok {r : Rf} {xs : List GV} {x : Str} {st : St} (e : st.ah.get r = some (.list xs)) : MeR K n r x [] (mPop r xs x st) st := by
  unfold mPop
  cases ex : x == ("pop" : Str) with
  | false => exact MeR.none
  | true =>
    obtain rfl := beq_iff_eq.mp ex
    intro c g st' h hc
    apply rb_elim h hc
    clear h hc
    intro c₃ p st₂ c₄ h3 h4 hc
    obtain ⟨e2, S⟩ := lastOf_inv h3 hc.left
    cases h4
    refine ⟨S.1, "list.pop", listId_pop, ?_⟩
    unfold setAt
    dsimp only
    rw [S.2]
    rw [e2] at e
    clear h3 hc S e2
    intro prog w A E s h₀ env sc loc φ N m vs Q C I hv kk
    obtain ⟨v, rfl, v1⟩ := Vs.one_inv hv
    exact r_pop I e v1 (by have l := I.hr.sz _ _ e; change _ ≤ _ at l; simp at l; omega) fun N' u h' tk I' X' hu => kk _ _ _ _ _ I' X' hu
theorem mApp_ok {r : Rf} {xs : List GV} {x : Str} {g' : GV} {st : St} (e : st.ah.get r = some (.list xs)) : MeR K n r x [g'] (mApp r xs x g' st) st := by
  unfold mApp
  cases ex : x == ("append" : Str) with
  | false => exact MeR.none
  | true =>
    obtain rfl := beq_iff_eq.mp ex
    intro c g st' h hc
    apply rb_elim h hc
    clear h hc
    intro c₁ u st₁ c₂ h1 h2 hc
    obtain ⟨l, rfl⟩ := need_inv h1 hc.left
    cases h2
    refine ⟨rfl, "list.append", listId_append, ?_⟩
    clear h1 hc
    intro prog w A E s h₀ env sc loc φ N m vs Q C I hv kk
    obtain ⟨v, u, rfl, v1, v2⟩ := Vs.two_inv hv
    exact r_append I e v1 v2 l fun N' h' tk I' X' => kk _ _ _ _ _ I' X' rfl
theorem mIns_ok {r : Rf} {xs : List GV} {x : Str} {k g' : GV} {st : St} (e : st.ah.get r = some (.list xs)) : MeR K n r x [k, g'] (mIns r xs x k g' st) st := by
  cases k with
  | int k =>
    unfold mIns
    dsimp only
    cases ex : x == ("insert" : Str) with
    | false => exact MeR.none
    | true =>
      obtain rfl := beq_iff_eq.mp ex
      intro c g st' h hc
      apply rb_elim h hc
      clear h hc
      intro c₁ u st₁ c₂ h1 h2 hc
      obtain ⟨l, rfl⟩ := need_inv h1 hc.left
      apply rb_elim h2 hc.right
      clear h2
      intro c₃ p st₂ c₄ h3 h4 hc2
      obtain ⟨e2, rfl⟩ := need_inv h3 hc2.left
      cases h4
      refine ⟨rfl, "list.insert", listId_insert, ?_⟩
      clear h1 h3 hc hc2
      intro prog w A E s h₀ env sc loc φ N m vs Q C I hv kk
      obtain ⟨v, u, x, rfl, v1, v2, v3⟩ := Vs.three_inv hv
      exact r_insert I e v1 v3 (by rw [← e2]; exact v2) l fun N' h' tk I' X' => kk _ _ _ _ _ I' X' rfl
  | _ => exact MeR.none
theorem snd_listMeth {r : Rf} {xs : List GV} {x : Str} {gs : List GV} {st st' : St} {c : List Prop} {g : GV} (h : listMeth r xs x gs st = some (c, g, st')) (hc : AllP c) (e : st.ah.get r = some (.list xs)) :
    st'.loc = st.loc ∧ ∃ id, listId x = some id ∧ Wv K n (.obj r :: gs) (fun vs => call (.builtin id) vs) st.ah (rV K g) st'.ah := by
  cases gs with
  | nil => exact mPop_ok e _ _ _ h hc
  | cons g1 gs => cases gs with
    | nil => exact mApp_ok e _ _ _ h hc
    | cons g2 gs => cases gs with
      | nil => exact mIns_ok e _ _ _ h hc
      | cons => exact none_ne h

theorem wv_int2 {f : Value → Value → Sem Value} {i j k : Int} {ah : AH}
    (r : ∀ {prog : Program} {w : World} {A : Around} {E : Value → Shared → Prop} {s : Shared} {t u : Tok} {Q : Value → Shared → Prop}, Q (.int k s.toks) { s with toks := s.toks + 1 } → wpAny (model prog w) A (f (.int i t) (.int j u)) Q E s) :
    Wv K n [.int i, .int j] (t2 f) ah (rV K (.int k)) ah := by
  intro prog w A E s h₀ env sc loc φ N m vs Q C I hv kk
  obtain ⟨v, u, rfl, h1, h2⟩ := Vs.two_inv hv
  obtain ⟨t, rfl⟩ := V.int_inv h1
  obtain ⟨t', rfl⟩ := V.int_inv h2
  exact r (kk _ _ _ _ _ I (Ext.refl ..) ⟨_, rfl⟩)
theorem wv_str2 {f : Value → Value → Sem Value} {i j k : Str} {ah : AH}
    (r : ∀ {prog : Program} {w : World} {A : Around} {E : Value → Shared → Prop} {s : Shared} {t u : Tok} {Q : Value → Shared → Prop}, (∀ t' tk, Q (.str k t') { s with toks := tk }) → wpAny (model prog w) A (f (.str i t) (.str j u)) Q E s) :
    Wv K n [.str i, .str j] (t2 f) ah (rV K (.str k)) ah := by
  intro prog w A E s h₀ env sc loc φ N m vs Q C I hv kk
  obtain ⟨v, u, rfl, h1, h2⟩ := Vs.two_inv hv
  obtain ⟨t, rfl⟩ := V.str_inv h1
  obtain ⟨t', rfl⟩ := V.str_inv h2
  exact r fun t' tk => kk _ _ _ _ _ I (Ext.refl ..) ⟨_, rfl⟩
/-- what is to be shown of an operation -/
noncomputable def BinR (K : Frag) (n : Nat) (op : Operator) (a b : GV) (x : R GV) (st : St) : Prop := ∀ (c : List Prop) (g : GV) (st' : St), x = some (c, g, st') → AllP c → Same st st' ∧ Wv K n [a, b] (t2 (binaryOp op)) st.ah (rV K g) st'.ah ∧ Wv K n [a, b] (t2 (inplaceOp op)) st.ah (rV K g) st'.ah
theorem BinR.none {op : Operator} {a b : GV} {st : St} : BinR K n op a b none st := fun _ _ _ h _ => by cases h
theorem BinR.nint {op : Operator} {a b : GV} {i : Int} {st : St} (x : ∀ ah, Wv K n [a, b] (t2 (binaryOp op)) ah (rV K (.int i)) ah ∧ Wv K n [a, b] (t2 (inplaceOp op)) ah (rV K (.int i)) ah) : BinR K n op a b (nint i st) st := fun _ _ _ h hc => by
  obtain ⟨rfl, S⟩ := nint_inv h hc
  rw [S.2]
  exact ⟨S, x _⟩
theorem addG_ok {a b : GV} {st : St} : BinR K n .Add a b (addG a b st) st := by
  cases a with
  | int i => cases b with
    | int j => exact BinR.nint fun ah => ⟨wv_int2 fun h => PyProof.Rows.add_int h, wv_int2 fun h => PyProof.Rows.iadd_int h⟩
    | _ => exact BinR.none
  | str i => cases b with
    | str j =>
      intro c g st' h hc
      unfold addG at h
      apply rb_elim h hc
      clear h hc
      intro c₃ p st₂ c₄ h3 h4 hc
      obtain ⟨e2, rfl⟩ := need_inv h3 hc.left
      cases h4
      exact ⟨Same.refl _, wv_str2 fun h => PyProof.Rows.add_str h (line_le (by omega)), wv_str2 fun h => PyProof.Rows.iadd_str h (line_le (by omega))⟩
    | _ => exact BinR.none
  | _ => exact BinR.none
theorem subG_ok {a b : GV} {st : St} : BinR K n .Sub a b (subG a b st) st := by
  cases a with
  | int i => cases b with
    | int j => exact BinR.nint fun ah => ⟨wv_int2 fun h => PyProof.Rows.sub_int h, wv_int2 fun h => PyProof.Rows.isub_int h⟩
    | _ => exact BinR.none
  | _ => exact BinR.none
theorem modG_ok {a b : GV} {st : St} : BinR K n .Mod a b (modG a b st) st := by
  cases a with
  | int i => cases b with
    | int j =>
      unfold modG
      dsimp only
      cases Int.decEq j 0 with
      | isFalse hj => exact BinR.nint fun ah => ⟨wv_int2 fun h => PyProof.Rows.mod_int' hj h, wv_int2 fun h => PyProof.Rows.imod_int hj h⟩
      | isTrue => exact BinR.none
    | _ => exact BinR.none
  | _ => exact BinR.none
theorem snd_bin {op : Operator} {a b : GV} {st st' : St} {c : List Prop} {g : GV} (h : binG op a b st = some (c, g, st')) (hc : AllP c) : Same st st' ∧ Wv K n [a, b] (t2 (binaryOp op)) st.ah (rV K g) st'.ah ∧ Wv K n [a, b] (t2 (inplaceOp op)) st.ah (rV K g) st'.ah := by
  cases op with
  | Add => exact addG_ok _ _ _ h hc
  | Sub => exact subG_ok _ _ _ h hc
  | Mod => exact modG_ok _ _ _ h hc
  | _ => cases h
end
end Mine
end

section
set_option maxRecDepth 100000
set_option autoImplicit false
set_option linter.unusedVariables false
set_option tactic.hygienic false
namespace Mine
open PySem PySem.W PySem.Calls PyProof.Rows

section
variable {K : Frag} {P : Pr} {n : Nat}
/-- what is to be shown of a call -/
noncomputable def CaR (K : Frag) (n : Nat) (f : Value) (gs : List GV) (y : R GV) (st : St) : Prop := ∀ (c : List Prop) (g : GV) (st' : St), y = some (c, g, st') → AllP c → st'.loc = st.loc ∧ Wv K n gs (fun vs => call f vs) st.ah (rV K g) st'.ah
theorem CaR.none {f : Value} {gs : List GV} {st : St} : CaR K n f gs none st := fun _ _ _ h _ => none_ne h
theorem CaR.rp {f : Value} {gs : List GV} {g : GV} {st : St} (x : Wv K n gs (fun vs => call f vs) st.ah (rV K g) st.ah) : CaR K n f gs (rp g st) st := fun _ _ _ h _ => by
  cases h; exact ⟨rfl, x⟩
theorem CaR.deref {f : Value} {gs : List GV} {r : Rf} {k : AO → St → R GV} {st : St} (e : ∀ o st₁, st.ah.get r = some o → Same st st₁ → CaR K n f gs (k o st₁) st₁) : CaR K n f gs (rb (deref r st) k) st := fun _ _ _ h hc =>
  rb_elim h hc fun _ _ _ _ h1 h2 hc => by
    obtain ⟨p, S⟩ := deref_inv h1 hc.left
    obtain ⟨S2, w⟩ := e _ _ p S _ _ _ h2 hc.right
    exact ⟨S2.trans S.1, S.2 ▸ w⟩
theorem wv_len0 {r : Rf} {xs : List GV} {ah : AH} (g1 : ah.get r = some (.list xs)) : Wv K n [.obj r] (fun vs => call (.builtin "len") vs) ah (rV K (.int (Int.ofNat xs.length))) ah := by
  intro prog w A E s h₀ env sc loc φ N m vs Q C I hv kk
  obtain ⟨v, rfl, v1⟩ := Vs.one_inv hv
  exact r_len I g1 v1 (by have := I.hr.sz _ _ g1; change _ ≤ _ at this; omega) fun u tk hu => kk _ _ _ _ _ I (Ext.refl ..) hu
theorem wv_slen {x : Str} {ah : AH} (l : x.length ≤ 1000000) : Wv K n [.str x] (fun vs => call (.builtin "len") vs) ah (rV K (.int (Int.ofNat x.length))) ah := by
  intro prog w A E s h₀ env sc loc φ N m vs Q C I hv kk
  obtain ⟨v, rfl, v1⟩ := Vs.one_inv hv
  obtain ⟨t, rfl⟩ := V.str_inv v1
  exact PySem.P.len_str (by omega) (kk _ _ _ _ _ I (Ext.refl ..) ⟨_, rfl⟩)
theorem oneC_inv {x : Str} {c : Nat} (h : oneC x = some c) : x = ⟨#[c]⟩ := by
  unfold oneC at h
  have e : x.cps.toList = [c] := by
    cases q : x.cps.toList with
    | nil => rw [q] at h; exact none_ne h
    | cons d r => cases r with
      | nil => rw [q] at h; cases h; rfl
      | cons => rw [q] at h; exact none_ne h
  cases x
  simp only [Str.mk.injEq]
  exact Array.toList_inj.mp e
theorem wv_ord {c : Nat} {ah : AH} : Wv K n [.str ⟨#[c]⟩] (fun vs => call (.builtin "ord") vs) ah (rV K (.int (Int.ofNat c))) ah := by
  intro prog w A E s h₀ env sc loc φ N m vs Q C I hv kk
  obtain ⟨v, rfl, v1⟩ := Vs.one_inv hv
  obtain ⟨t, rfl⟩ := V.str_inv v1
  exact PySem.P.ord_of_char (kk _ _ _ _ _ I (Ext.refl ..) ⟨_, rfl⟩)
theorem wv_chr {k : Nat} {ah : AH} (hk : k < 55296) : Wv K n [.int (Int.ofNat k)] (fun vs => call (.builtin "chr") vs) ah (rV K (.str ⟨#[k]⟩)) ah := by
  intro prog w A E s h₀ env sc loc φ N m vs Q C I hv kk
  obtain ⟨v, rfl, v1⟩ := Vs.one_inv hv
  obtain ⟨t, rfl⟩ := V.int_inv v1
  exact PySem.P.chr_of_int (i := (k : Int)) (by simp; omega) (kk _ _ _ _ _ I (Ext.refl ..) ⟨_, rfl⟩)
theorem bStr_ok {id : String} {x : Str} {st : St} : CaR K n (.builtin id) [.str x] (bStr id x st) st := by
  unfold bStr
  cases e : decide (id = "len") with
  | true =>
    obtain rfl := of_decide_eq_true e
    intro c g st' h hc
    apply rb_elim h hc
    clear h hc
    intro c₃ u st₂ c₄ h3 h4 hc
    obtain ⟨l, rfl⟩ := need_inv h3 hc.left
    cases h4
    exact ⟨rfl, wv_slen l⟩
  | false =>
    dsimp only
    cases e : decide (id = "ord") with
    | false => exact CaR.none
    | true =>
      obtain rfl := of_decide_eq_true e
      dsimp only
      cases q : oneC x with
      | none => exact CaR.none
      | some c => rw [oneC_inv q]; exact CaR.rp wv_ord
theorem bChr_ok {id : String} {i : Int} {st : St} : CaR K n (.builtin id) [.int i] (bChr id i st) st := by
  unfold bChr
  cases e : decide (id = "chr") with
  | false => exact CaR.none
  | true =>
    obtain rfl := of_decide_eq_true e
    cases i with
    | ofNat k =>
      dsimp only
      cases e2 : Nat.blt k 55296 with
      | false => exact CaR.none
      | true => exact CaR.rp (wv_chr (blt_lt e2))
    | negSucc => exact CaR.none
theorem bLen_ok {id : String} {r : Rf} {o : AO} {st : St} (g1 : st.ah.get r = some o) : CaR K n (.builtin id) [.obj r] (bLen id o st) st := by
  cases o with
  | list xs =>
    unfold bLen
    dsimp only
    cases e : decide (id = "len") with
    | false => exact CaR.none
    | true => obtain rfl := of_decide_eq_true e; exact CaR.rp (wv_len0 g1)
  | _ => exact CaR.none
theorem snd_bi {id : String} {gs : List GV} {st st' : St} {c : List Prop} {g : GV} (h : biCall id gs st = some (c, g, st')) (hc : AllP c) : st'.loc = st.loc ∧ Wv K n gs (fun vs => call (.builtin id) vs) st.ah (rV K g) st'.ah := by
  cases gs with
  | nil => exact none_ne h
  | cons g1 gs => cases gs with
    | cons => exact none_ne h
    | nil => cases g1 with
      | obj r => exact CaR.deref (fun o st₁ g1 S => bLen_ok (S.2 ▸ g1)) _ _ _ h hc
      | str x => exact bStr_ok _ _ _ h hc
      | int i => exact bChr_ok _ _ _ h hc
      | _ => exact none_ne h
theorem wv_list {xs : List GV} {q : Rg} {ah : AH} (l : xs.length < 1000) : Wv K n [.tup xs] (fun vs => call (.type "list") vs) ah (rV K (.obj (ah.nx q))) (ah.push q (.list xs)) := by
  intro prog w A E s h₀ env sc loc φ N m vs Q C I hv kk
  obtain ⟨v, rfl, v1⟩ := Vs.one_inv hv
  obtain ⟨a, ws, rfl, hx, T⟩ := I.tup C.kin v1
  have hl := hx.length
  refine PySem.W.list_copyKT I.fr I.nw T (fun D c h' F' N' lt => ?_) (by rw [List.size_toArray]; exact line_le (by omega))
  obtain ⟨I', X, hv'⟩ := I.pushList q hx (by omega) F' N' (fun q => by
    obtain ⟨p, hp, e⟩ := List.mem_map.mp q
    exact absurd (lt p hp) (by rw [e]; exact Nat.lt_irrefl _))
  exact kk _ _ _ _ _ I' X hv'
theorem wv_tuple {r : Rf} {xs : List GV} {ah : AH} (g1 : ah.get r = some (.list xs)) : Wv K n [.obj r] (fun vs => call (.type "tuple") vs) ah (rV K (.tup xs)) ah := by
  intro prog w A E s h₀ env sc loc φ N m vs Q C I hv kk
  obtain ⟨v, rfl, v1⟩ := Vs.one_inv hv
  obtain ⟨p, ws, k, hp, rfl, hm, hx, L⟩ := I.list g1 v1
  have hl := hx.length
  have := I.hr.sz _ _ g1
  change _ ≤ _ at this
  refine call_tuple_list L (fun h' hk => ?_) (by rw [List.size_toArray]; exact line_le (by omega))
  have F1 := I.fr.keeps hk
  have N1 : News h₀ env.locals h' N := fun q hq => ⟨hk _ _ (I.nw q hq).1, (I.nw q hq).2⟩
  have I1 : Li K w.params h₀ env.locals loc ah φ N m (⟨h', s.gens, s.drawn, s.toks, s.os⟩ : Shared).heap := ⟨F1, N1, I.hr, I.lc⟩
  obtain ⟨I', X, S'⟩ := I1.more (F1.push _) (News.push F1 N1 (tupOf ws)) I1.fresh
  exact kk _ _ _ _ _ I' X ⟨_, ws, rfl, .inl (.head _), Vs.stay S' _ _ hx⟩
theorem tList_ok {id : String} {xs : List GV} {st : St} : CaR K n (.type id) [.tup xs] (tList id xs st) st := by
  unfold tList
  cases e : decide (id = "list") with
  | false => exact CaR.none
  | true =>
    obtain rfl := of_decide_eq_true e
    dsimp only
    cases l : Nat.blt xs.length 1000 with
    | false => exact CaR.none
    | true =>
      intro c g st' h hc
      apply rb_elim h hc
      clear h hc
      intro c₃ r st₂ c₄ h3 h4 hc
      obtain ⟨q, rfl, a1, a2⟩ := alloc_inv h3 hc.left
      cases h4
      exact ⟨a1, by rw [a2]; exact wv_list (blt_lt l)⟩
theorem tTup_ok {id : String} {r : Rf} {o : AO} {st : St} (g1 : st.ah.get r = some o) : CaR K n (.type id) [.obj r] (tTup id o st) st := by
  cases o with
  | list xs =>
    unfold tTup
    dsimp only
    cases e : decide (id = "tuple") with
    | false => exact CaR.none
    | true => obtain rfl := of_decide_eq_true e; exact CaR.rp (wv_tuple g1)
  | _ => exact CaR.none
theorem snd_ty {id : String} {gs : List GV} {st st' : St} {c : List Prop} {g : GV} (h : tyCall id gs st = some (c, g, st')) (hc : AllP c) : st'.loc = st.loc ∧ Wv K n gs (fun vs => call (.type id) vs) st.ah (rV K g) st'.ah := by
  cases gs with
  | nil => exact none_ne h
  | cons g1 gs => cases gs with
    | cons => exact none_ne h
    | nil => cases g1 with
      | obj r => exact CaR.deref (fun o st₁ g1 S => tTup_ok (S.2 ▸ g1)) _ _ _ h hc
      | tup x => exact tList_ok _ _ _ h hc
      | _ => exact none_ne h
end
end Mine
end

section
set_option maxRecDepth 100000
set_option autoImplicit false
set_option linter.unusedVariables false
set_option tactic.hygienic false
namespace Mine
open PySem PySem.W PySem.Calls PyProof.Rows

section
variable {K : Frag} {P : Params} {φ : Phi} {ah : AH} {N : Led}
/-- another ledger that bears the same -/
theorem HR.re (H : HR K P φ ah N) {N' : Led} (nd : (N'.map (·.1)).Nodup) (k : ∀ a x, a ∈ foot φ ah → (a, x) ∈ N → (a, x) ∈ N') (t : ∀ a vs, (a, tupOf vs) ∈ N → (a, tupOf vs) ∈ N') : HR K P φ ah N' ∧ Stay φ N φ N' := by
  have S : Stay φ N φ N' := ⟨PLe.refl _, t⟩
  exact ⟨⟨H.lc, H.ld, H.ln, nd, H.ft, fun r o p h1 h2 => OR.stay S (H.ob r o p h1 h2) fun a z ha hz => k a z (mem_foot h1 h2 ha) hz, H.sz⟩, S⟩
end

section
variable {prog : Program} {w : World} {A : Around} {E : Value → Shared → Prop} {s : Shared} {K : Frag} {h₀ : Heap} {L : Addr} {loc : Loc} {ah : AH} {φ : Phi} {N : Led} {m : Str → Option Value}
/-- one object that is no changing one is turned -/
theorem Li.turn {h h' : Heap} {P : Params} (I : Li K P h₀ L loc ah φ N m h) {a : Addr} {o o' : Obj} (hm : (a, o) ∈ N) (hf : a ∉ foot φ ah) (hc : o.cls ≠ .type "tuple") (ha : h'.get? a = some o') (hk : ∀ b x, b ≠ a → h.get? b = some x → h'.get? b = some x) :
    Li K P h₀ L loc ah φ (upd a o' N) m h' ∧ (a, o') ∈ upd a o' N := by
  have z := I.nw _ hm
  have F' : Fr h₀ L h' m := ⟨Heap.Ns.at' I.fr.ns fun x e => hk _ _ (Ne.symm z.2.1) e, fun b x e => hk b x (fun q => by rw [q, z.2.2] at e; cases e) (I.fr.keep b x e), I.fr.above⟩
  have N' : News h₀ L h' (upd a o' N) := by
    intro p hp
    obtain ⟨q, hq, rfl⟩ := List.mem_map.mp hp
    by_cases e : q.1 = a
    · rw [if_pos e]; exact ⟨ha, z.2⟩
    · rw [if_neg e]
      have y := I.nw q hq
      exact ⟨hk _ _ e y.1, y.2⟩
  obtain ⟨H, S⟩ := I.hr.re (N' := upd a o' N) (by rw [upd_keys]; exact I.hr.nd) (fun b x hb hx => upd_ne hx fun q => hf (by rw [← q]; exact hb)) (fun b vs hb => upd_ne hb fun q => by
    have q : b = a := q
    subst q
    have := eq_of_nodup I.hr.nd hb hm
    rw [← this] at hc
    exact hc rfl)
  exact ⟨⟨F', N', H, I.lc.stay S⟩, upd_at hm⟩
theorem Ext.turn {φ0 : Phi} {ah0 : AH} {N0 : Led} (X : Ext φ0 ah0 N0 φ ah N) {a : Addr} {o' : Obj} (hn : a ∉ N0.map (·.1)) : Ext φ0 ah0 N0 φ ah (upd a o' N) :=
  ⟨X.pre, fun p hp hf => upd_ne (X.keep p hp hf) fun q => hn (q ▸ List.mem_map.mpr ⟨p, hp, rfl⟩), X.new, fun b hb => by rw [upd_keys]; exact X.old b hb⟩
/-- one object that is no changing one is let go -/
theorem Li.drop {h h' : Heap} {P : Params} (I : Li K P h₀ L loc ah φ N m h) {a : Addr} {o : Obj} (hm : (a, o) ∈ N) (hf : a ∉ foot φ ah) (hc : o.cls ≠ .type "tuple") (hk : ∀ b x, b ≠ a → h.get? b = some x → h'.get? b = some x) :
    Li K P h₀ L loc ah φ (N.filter fun p => p.1 != a) m h' := by
  have z := I.nw _ hm
  have F' : Fr h₀ L h' m := ⟨Heap.Ns.at' I.fr.ns fun x e => hk _ _ (Ne.symm z.2.1) e, fun b x e => hk b x (fun q => by rw [q, z.2.2] at e; cases e) (I.fr.keep b x e), I.fr.above⟩
  have N' : News h₀ L h' (N.filter fun p => p.1 != a) := by
    intro p hp
    obtain ⟨hq, e⟩ := List.mem_filter.mp hp
    have y := I.nw p hq
    exact ⟨hk _ _ (by simpa using e) y.1, y.2⟩
  obtain ⟨H, S⟩ := I.hr.re (N' := N.filter fun p => p.1 != a) (I.hr.nd.sublist (List.filter_sublist.map _)) (fun b x hb hx => List.mem_filter.mpr ⟨hx, by
    have : b ≠ a := fun q => hf (q ▸ hb)
    simpa using this⟩) (fun b vs hb => List.mem_filter.mpr ⟨hb, by
    have : b ≠ a := fun q => by
      subst q
      have := eq_of_nodup I.hr.nd hb hm
      rw [← this] at hc
      exact hc rfl
    simpa using this⟩)
  exact ⟨F', N', H, I.lc.stay S⟩
theorem Ext.drop {φ0 : Phi} {ah0 : AH} {N0 : Led} (X : Ext φ0 ah0 N0 φ ah N) {a : Addr} (hn : a ∉ N0.map (·.1)) : Ext φ0 ah0 N0 φ ah (N.filter fun p => p.1 != a) :=
  ⟨X.pre, fun p hp hf => List.mem_filter.mpr ⟨X.keep p hp hf, by
    have : p.1 ≠ a := fun q => hn (q ▸ List.mem_map.mpr ⟨p, hp, rfl⟩)
    simpa using this⟩, X.new, fun b hb => by
    have := X.old b hb
    obtain ⟨p, hp, rfl⟩ := List.mem_map.mp this
    exact List.mem_map.mpr ⟨p, List.mem_filter.mpr ⟨hp, by
      have : p.1 ≠ a := fun q => hn (q ▸ hb)
      simpa using this⟩, rfl⟩⟩

end
end Mine
end

section
set_option maxRecDepth 100000
set_option autoImplicit false
set_option linter.unusedVariables false
set_option tactic.hygienic false
namespace Mine
open PySem PySem.W PySem.Calls PyProof.Rows

/-- the pairs of a display -/
noncomputable def DV (K : Frag) (φ : Phi) (N : Led) : List (Str × GV) → List (Value × Value) → Prop
  | [], l => l = []
  | x :: xs, l => ∃ t v r, l = (.str x.1 t, v) :: r ∧ V K φ N x.2 v ∧ DV K φ N xs r
section
variable {K : Frag} {n : Nat}
theorem DV.stay {φ φ' : Phi} {N N' : Led} (S : Stay φ N φ' N') : ∀ {kvs : List (Str × GV)} {l : List (Value × Value)}, DV K φ N kvs l → DV K φ' N' kvs l
  | [], _, h => h
  | x :: xs, _, h => by
    obtain ⟨t, v, r, rfl, h1, h2⟩ := h
    exact ⟨t, v, r, rfl, V.stay S _ _ h1, DV.stay S h2⟩
/-- the text keys with their values -/
noncomputable def kvOf : List (Value × Value) → List (Str × Value)
  | (.str x _, v) :: r => (x, v) :: kvOf r
  | _ :: r => kvOf r
  | [] => []
theorem DV.carries {prog : Program} {w : World} {φ : Phi} {N : Led} : ∀ {kvs : List (Str × GV)} {l : List (Value × Value)}, DV K φ N kvs l → Carries (strKind prog w) l (kvOf l) ∧ (kvOf l).map (·.1) = kvs.map (·.1) ∧ l.length = kvs.length
  | [], l, h => by
    have h : l = [] := h
    subst h
    exact ⟨True.intro, rfl, rfl⟩
  | x :: xs, _, h => by
    obtain ⟨t, v, r, rfl, h1, h2⟩ := h
    obtain ⟨a, b, c⟩ := DV.carries (prog := prog) (w := w) h2
    exact ⟨⟨strKind_is prog w _ t, rfl, a⟩, by show x.1 :: _ = _; rw [b]; rfl, by simp [c]⟩
theorem keysOk_spec {ks : List (Str × GV)} : ∀ {more : List (Str × GV)}, dictMeth.keysOk ks more = true → (∀ p ∈ more, p.1 ∉ ks.map (·.1)) ∧ (more.map (·.1)).Nodup
  | [], _ => ⟨fun p hp => (by cases hp), List.nodup_nil⟩
  | p :: r, h => by
    unfold dictMeth.keysOk at h
    simp only [Bool.and_eq_true] at h
    obtain ⟨⟨h1, h2⟩, h3⟩ := h
    have nin : ∀ {l : List (Str × GV)}, (l.lookup p.1).isNone = true → p.1 ∉ l.map (·.1) := by
      intro l hl hm
      rw [Option.isNone_iff_eq_none, List.lookup_eq_none_iff] at hl
      obtain ⟨q, hq, e⟩ := List.mem_map.mp hm
      have := hl q hq
      rw [e] at this
      simp at this
    obtain ⟨a, b⟩ := keysOk_spec h3
    exact ⟨fun q hq => by
      rcases List.mem_cons.mp hq with rfl | hq
      · exact nin h1
      · exact a q hq, by
      rw [List.map_cons, List.nodup_cons]; exact ⟨nin h2, b⟩⟩
theorem merged_new : ∀ (more kvs : List (Str × Value)), (∀ p ∈ more, p.1 ∉ kvs.map (·.1)) → (more.map (·.1)).Nodup → merged kvs more = kvs ++ more
  | [], kvs, _, _ => by simp [merged]
  | p :: r, kvs, h, nd => by
    rw [List.map_cons, List.nodup_cons] at nd
    show merged (stored kvs p.1 p.2) r = _
    have e : stored kvs p.1 p.2 = kvs ++ [p] := by
      unfold stored
      rw [if_neg]
      intro q
      obtain ⟨x, hx, e⟩ := List.any_eq_true.mp q
      have e : x.1 = p.1 := of_decide_eq_true e
      exact h p (.head _) (e ▸ List.mem_map.mpr ⟨x, hx, rfl⟩)
    rw [e, merged_new r (kvs ++ [p]) (fun q hq => ?_) nd.2, List.append_assoc]
    · rfl
    · rw [List.map_append, List.mem_append]
      rintro (z | z)
      · exact h q (.tail _ hq) z
      · have z : q.1 = p.1 := List.mem_singleton.mp z
        exact nd.1 (z ▸ List.mem_map.mpr ⟨q, hq, rfl⟩)
/-- a dict of the interpreter's from its pairs -/
theorem es_of {prog : Program} {w : World} {φ : Phi} {N : Led} {es : Array DictEntry} (ko : PySem.KeysOf (strKind prog w) es) : ∀ {kvs : List (Str × GV)} {l : List (Str × Value)} {el : List DictEntry}, (∀ e ∈ el, e ∈ es.toList) → Pairs (strKind prog w) el l →
    RL K φ N kvs l → Es K w.params φ N kvs el
  | [], l, el, _, hp, hf => by
    cases hf
    cases hp
    rfl
  | x :: xs, l, el, hs, hp, hf => by
    cases hf with
    | @cons bx g v _ l' h1 h2 =>
      cases hp with
      | @cons e b el' _ k1 k2 k3 =>
        obtain ⟨key, k4, k5⟩ := ko _ (Array.mem_toList_iff.mp (hs _ (.head _)))
        have k1 : Value.isStrOf bx e.key = true := k1
        have k4 : Value.isStrOf key e.key = true := k4
        obtain ⟨t, ht⟩ := Value.isStrOf_shape k1
        have hk2 : key = bx := by
          rw [ht] at k4
          exact (beq_iff_eq.mp k4).symm
        refine ⟨e, el', rfl, ⟨t, ht⟩, ?_, by rw [k2]; exact h1, es_of ko (fun e he => hs e (.tail _ he)) k3 h2⟩
        rw [k5, hk2]
        rfl
theorem DV.rl {φ : Phi} {N : Led} : ∀ {kvs : List (Str × GV)} {l : List (Value × Value)}, DV K φ N kvs l → RL K φ N kvs (kvOf l)
  | [], l, h => by have h : l = [] := h; subst h; exact .nil
  | x :: xs, l, h => by
    obtain ⟨t, v, r, rfl, h1, h2⟩ := h
    exact .cons h1 (DV.rl h2)
theorem RL.of_es {P : Params} {φ : Phi} {N : Led} : ∀ {kvs : List (Str × GV)} {es : List DictEntry}, Es K P φ N kvs es → ∃ l, RL K φ N kvs l ∧ l.map (·.1) = kvs.map (·.1) ∧ ∀ {prog : Program} {w : World}, Pairs (strKind prog w) es l
  | [], es, h => by have h : es = [] := h; subst h; exact ⟨[], .nil, rfl, .nil⟩
  | x :: xs, es, h => by
    obtain ⟨e, r, rfl, ⟨t, h1⟩, h2, h3, h4⟩ := h
    obtain ⟨l, a, b, c⟩ := RL.of_es h4
    exact ⟨(x.1, e.val) :: l, .cons h3 a, by simp [b], .cons (by rw [h1]; exact strKind_is _ _ _ t) rfl c⟩
end
end Mine
end

section
set_option maxRecDepth 100000
set_option autoImplicit false
set_option linter.unusedVariables false
set_option tactic.hygienic false
namespace Mine
open PySem PySem.W PySem.Calls PyProof.Rows

section
variable {K : Frag} {n : Nat}

/-- the pairs of a display, evaluated -/
noncomputable def DsOK (K : Frag) (n : Nat) (sc : Scope) (ks : List (Option Expr)) (vs : List Expr) (loc : Loc) (ah : AH) (kvs : List (Str × GV)) (ah' : AH) : Prop :=
  ∀ (env : Env) (pos : Pos), ∃ pairs : List (Sem Value × Sem Value), (evalEachOpt ks env).zip ((evalEach vs env).map fun v => do let x ← v; standAt pos; pure x) = pairs.map (fun p => (some p.1, p.2)) ∧ pairs.length = ks.length ∧
  ∀ {prog : Program} {w : World} {A : Around} {E : Value → Shared → Prop} {s : Shared} {h₀ : Heap} {φ : Phi} {N : Led} {m : Str → Option Value} {Q : List (Value × Value) → Shared → Prop},
    CX K A h₀ env sc n → Li K w.params h₀ env.locals loc ah φ N m s.heap →
    (∀ φ' N' vs h' tk, Li K w.params h₀ env.locals loc ah' φ' N' m h' → Ext φ ah N φ' ah' N' → DV K φ' N' kvs vs → Q vs ⟨h', s.gens, s.drawn, tk, s.os⟩) →
    wpAny (model prog w) A (evalPairs pairs) Q E s

theorem keyOf_inv {k : Option Expr} {x : Str} (h : keyOf k = some x) : ∃ kk p, k = some (.Constant (.str x) kk p) := by
  cases k with
  | none => cases h
  | some e => cases e with
    | Constant c kk p => cases c with
      | str y => cases h; exact ⟨kk, p, rfl⟩
      | _ => exact none_ne h
    | _ => exact none_ne h
theorem DsOK.nil {sc : Scope} {loc : Loc} {ah : AH} : DsOK K n sc [] [] loc ah [] ah := fun env pos =>
  ⟨[], rfl, rfl, fun {prog w A E s h₀ φ N m Q} C I k => evalPairs_nil (k _ _ [] s.heap s.toks I (Ext.refl ..) rfl)⟩
theorem DsOK.cons {sc : Scope} {x : Str} {kk : Nat} {p : Pos} {v : Expr} {ks : List (Option Expr)} {vs : List Expr} {loc : Loc} {ah ah1 ah2 : AH} {g : GV} {r : List (Str × GV)} (e1 : EvOK K n sc v loc ah g ah1) (e2 : DsOK K n sc ks vs loc ah1 r ah2) :
    DsOK K n sc (some (.Constant (.str x) kk p) :: ks) (v :: vs) loc ah ((x, g) :: r) ah2 := fun env pos => by
  obtain ⟨pairs, p1, p2, p3⟩ := e2 env pos
  refine ⟨(eval (.Constant (.str x) kk p) env, do let x ← eval v env; standAt pos; pure x) :: pairs, ?_, ?_, fun {prog w A E s h₀ φ N m Q} C I k => ?_⟩
  · show (some (eval (.Constant (.str x) kk p) env), (do let x ← eval v env; standAt pos; pure x)) :: (evalEachOpt ks env).zip ((evalEach vs env).map fun v => do let x ← v; standAt pos; pure x) = _
    rw [p1]; rfl
  · rw [List.length_cons, List.length_cons, p2]
  · refine evalPairs_cons (wpAny_Constant_str ?_)
    refine wpAny_bind (e1 (s := ⟨s.heap, s.gens, s.drawn, s.toks + 1, s.os⟩) C I fun φ' N' u h' tk I' X' hu => wpAny_bind (wpAny_standAt (wpAny_pure ?_)))
    refine p3 (s := ⟨h', s.gens, s.drawn, tk, s.os⟩) C I' fun φ'' N'' vs' h'' tk' I'' X'' hv => ?_
    exact k _ _ _ _ _ I'' (X'.trans X'') ⟨_, u, vs', rfl, V.stay (X''.stay I'.hr) _ _ hu, hv⟩
theorem snd_pairs {ev : Scope → Expr → St → R GV} (he : SndE K ev n) {sc : Scope} : ∀ {ks : List (Option Expr)} {vs : List Expr} {st st' : St} {c : List Prop} {kvs : List (Str × GV)}, dictG (ev sc) ks vs st = some (c, kvs, st') → AllP c →
    st'.loc = st.loc ∧ DsOK K n sc ks vs st.loc st.ah kvs st'.ah
  | [], [], st, st', c, kvs, h, hc => by
    cases h
    exact ⟨rfl, DsOK.nil⟩
  | [], _ :: _, _, _, _, _, h, _ => by cases h
  | _ :: _, [], _, _, _, _, h, _ => by cases h
  | k :: ks, v :: vs, st, st', c, kvs, h, hc => by
    unfold dictG at h
    cases q : keyOf k with
    | none => rw [q] at h; cases h
    | some x =>
      rw [q] at h
      obtain ⟨kk, p, rfl⟩ := keyOf_inv q
      apply rb_elim h hc
      clear h hc q
      intro c₁ g st₁ c₂ h1 h2 hc
      apply rb_elim h2 hc.right
      clear h2
      intro c₃ r st₂ c₄ h3 h4 hc2
      cases h4
      obtain ⟨l1, e1⟩ := he _ _ _ _ _ _ h1 hc.left
      obtain ⟨l2, e2⟩ := snd_pairs he h3 hc2.left
      rw [l1] at e2
      exact ⟨l2.trans l1, DsOK.cons e1 e2⟩
/-- a display -/
theorem EvOK.dict {sc : Scope} {k : Option Expr} {ks : List (Option Expr)} {vs : List Expr} {pos : Pos} {loc : Loc} {ah ah1 : AH} {kvs : List (Str × GV)} (h : DsOK K n sc (k :: ks) vs loc ah kvs ah1) (hk : ks.length < 14) (ok : dictMeth.keysOk [] kvs = true) (q : Rg) :
    EvOK K n sc (.Dict (k :: ks) vs pos) loc ah (.obj (ah1.nx q)) (ah1.push q (.dict kvs)) := by
  intro prog w A E s h₀ env φ N m Q C I kk
  obtain ⟨pairs, p1, p2, p3⟩ := h env pos
  refine wpAny_Dict_pairs (knd := strKind prog w) p1 (fun e => by rw [e] at p2; simp at p2) (by rw [p2]; simp; omega) ?_
  obtain ⟨I1, X1, S1⟩ := I.more (I.fr.push (dictOf [] 0)) (News.push I.fr I.nw (dictOf [] 0)) I.fresh
  have hf : s.heap.objs.size ∉ foot φ ah := fun q => I.fresh (I.hr.foot_in q)
  refine p3 (s := { s with heap := s.heap.push (dictOf [] 0) }) C I1 fun φ' N' l h' tk I' X' hl => ?_
  have hm : (s.heap.objs.size, dictOf [] 0) ∈ N' := X'.keep _ (.head _) hf
  have hf' : s.heap.objs.size ∉ foot φ' ah1 := fun q => by
    rcases X'.new _ q with q | q
    · exact hf q
    · exact q (List.mem_map.mpr ⟨_, .head _, rfl⟩)
  obtain ⟨dc, dn, dl⟩ := hl.carries (prog := prog) (w := w)
  obtain ⟨k1, k2⟩ := keysOk_spec ok
  refine ⟨kvOf l, dc, ⟨_, #[], 0, (I'.nw _ hm).1, ⟨rfl, rfl, rfl⟩, rfl, fun e he => by simp at he, .nil, List.nodup_nil⟩, fun h2 hd sb => ?_⟩
  rw [merged_new _ _ (fun p hp q => by simp at q) (by rw [dn]; exact k2)] at hd
  have ex := (X1.trans X').drop (a := s.heap.objs.size) I.fresh
  have I2 := I'.drop (h' := h2) hm hf' (fun q => absurd (Value.type.inj q) (by decide)) fun b x hb e => (sb.2 b hb).trans e
  obtain ⟨o, es, ep, ho, hx, hdt, hko, hpr, hnd⟩ := hd
  have eo : o = dictOf es.toList ep := by
    obtain ⟨oc, od, dt, sl⟩ := o
    obtain ⟨x1, x2, x3⟩ := hx
    dsimp only at x1 x2 x3 hdt
    subst x1 x2 x3 hdt
    rfl
  have fr : s.heap.objs.size ∉ (N'.filter fun p => p.1 != s.heap.objs.size).map (·.1) := fun q => by
    obtain ⟨p, hp, e⟩ := List.mem_map.mp q
    have := (List.mem_filter.mp hp).2
    rw [e] at this
    simp at this
  have Sd : Stay φ' N' φ' (N'.filter fun p => p.1 != s.heap.objs.size) := ⟨PLe.refl _, fun a vs hb => List.mem_filter.mpr ⟨hb, by
    have : a ≠ s.heap.objs.size := fun q => by
      subst q
      have := eq_of_nodup I'.hr.nd hb hm
      exact absurd (Value.type.inj (congrArg Obj.cls this)) (by decide)
    simpa using this⟩⟩
  have nw : News h₀ env.locals h2 ((s.heap.objs.size, dictOf es.toList ep) :: N'.filter fun p => p.1 != s.heap.objs.size) := by
    intro p hp
    rcases List.mem_cons.mp hp with rfl | hp
    · exact ⟨eo ▸ ho, (I'.nw _ hm).2⟩
    · exact I2.nw p hp
  obtain ⟨H, X, S⟩ := I2.hr.push q (o := .dict kvs) (p := (s.heap.objs.size, 0)) (N' := (s.heap.objs.size, dictOf es.toList ep) :: N'.filter fun p => p.1 != s.heap.objs.size) (fun q hq => .tail _ hq) (by rw [List.map_cons, List.nodup_cons]; exact ⟨fr, I2.hr.nd⟩)
    (fun b hb => by rw [List.mem_singleton.mp hb]; exact fr) (by simp [footO]) trivial (fun S => ⟨es.toList, ep, .head _, es_of hko (fun e he => he) (by simpa using hpr) (DV.stay S (DV.stay Sd hl)).rl⟩)
  refine kk _ _ _ _ _ ⟨I2.fr, nw, H, I2.lc.stay S⟩ (ex.trans X) ⟨(s.heap.objs.size, 0), ?_, rfl⟩
  rw [← nx_eq I2.hr.lc I2.hr.ld I2.hr.ln]
  exact T3.get_push_self φ' q _

theorem RL.stay {φ φ' : Phi} {N N' : Led} (S : Stay φ N φ' N') {l : List (Str × GV)} {l' : List (Str × Value)} (h : RL K φ N l l') : RL K φ' N' l l' := by
  induction h with
  | nil => exact .nil
  | cons hv _ ih => exact .cons (V.stay S _ _ hv) ih
theorem wv_update {P : Pr} (OK : PrOK K P) {r r2 : Rf} {ks more : List (Str × GV)} {ah : AH} (q0 : dictMeth.keysOk [] ks = true) (q1 : dictMeth.keysOk ks more = true) (qe : (!ks.isEmpty) = true) (q2 : Nat.blt (ks.length + more.length) 1000 = true) (e : ah.get r = some (.dict ks)) (g1 : ah.get r2 = some (.dict more)) :
    Wv K n [.obj r, .obj r2] (fun vs => call (.builtin "dict.update") vs) ah (rV K .none) (ah.set r (.dict (ks ++ more))) := by
  intro prog w A E s h₀ env sc loc φ N m vs Q C I hv kk
  obtain ⟨v, u, rfl, v1, v2⟩ := Vs.two_inv hv
  obtain ⟨k1, k2⟩ := keysOk_spec q1
  obtain ⟨_, k0⟩ := keysOk_spec q0
  obtain ⟨p, es, n1, hp, rfl, hm, he⟩ := I.dict e v1
  obtain ⟨a2, es2, rfl, lo2, _, _⟩ := mapOf_L (prog := prog) I g1 v2 C.kin OK.md
  obtain ⟨pp, es2', n2, hp2, hvv, hm2, he2⟩ := I.dict g1 v2
  cases hvv
  obtain ⟨l1, r1, n1', pr1⟩ := RL.of_es he
  obtain ⟨l2, r2', n2', pr2⟩ := RL.of_es he2
  have ko : ∀ {Q : List (Str × GV)} {E' : List DictEntry}, Es K w.params φ N Q E' → PySem.KeysOf (strKind prog w) E'.toArray := fun hE e he' => by
    obtain ⟨x, t, e1, e2⟩ := (Es.keysLit hE).all e (Array.mem_toList_iff.mpr he')
    exact ⟨x, by rw [e1]; exact strKind_is prog w x t, e2⟩
  have hne : p.1 ≠ pp.1 := fun q => by
    have := foot_apart I.hr.ft e hp g1 hp2 (List.mem_singleton.mpr rfl) (show p.1 ∈ footO (.dict more) pp from List.mem_singleton.mpr q)
    subst this
    rw [e] at g1
    cases g1
    cases hks : ks with
    | nil => rw [hks] at qe; cases qe
    | cons z zs =>
      rw [hks] at k1
      exact k1 z (.head _) (.head _)
  have D1 : s.heap.DictOf (strKind prog w) p.1 l1 := ⟨_, es.toArray, n1, (I.nw _ hm).1, ⟨rfl, rfl, rfl⟩, rfl, ko he, by simpa using pr1, by rw [n1']; exact k0⟩
  have D2 : s.heap.DictOf (strKind prog w) pp.1 l2 := ⟨_, es2'.toArray, n2, (I.nw _ hm2).1, ⟨rfl, rfl, rfl⟩, rfl, ko he2, by simpa using pr2, by rw [n2']; exact k2⟩
  have z1 : l1.length = ks.length := by have := congrArg List.length n1'; simpa using this
  have z2 : l2.length = more.length := by have := congrArg List.length n2'; simpa using this
  refine call_meetsIn PySem.F.slot_dict_update D1.typeIs PySem.F.entry_dict_update (PySem.F.args_dict_update_2 _ _) (meets_dict_update (strKind prog w) p.1 pp.1 hne lo2)
    ⟨l1, l2, D1, D2, line_le (by have := blt_lt q2; omega), fun h' hd _ sb => ?_⟩
  rw [merged_new l2 l1 (fun q hq hq' => by
    rw [n1'] at hq'
    have : q.1 ∈ more.map (·.1) := by rw [← n2']; exact List.mem_map.mpr ⟨q, hq, rfl⟩
    obtain ⟨y, hy, hy'⟩ := List.mem_map.mp this
    exact k1 y hy (hy' ▸ hq')) (by rw [n2']; exact k2)] at hd
  obtain ⟨o, es3, ep, ho, hx', hdt, hko, hpr, hnd⟩ := hd
  have eo : o = dictOf es3.toList ep := by
    obtain ⟨oc, od, dt, sl⟩ := o
    obtain ⟨x1, x2, x3⟩ := hx'
    dsimp only at x1 x2 x3 hdt
    subst x1 x2 x3 hdt
    rfl
  subst eo
  obtain ⟨H, X, S⟩ := I.hr.set (i := r) (o' := .dict (ks ++ more)) (d := p.1) (x := dictOf es3.toList ep) e hp hm (.head _) rfl trivial
    (fun S => ⟨es3.toList, ep, upd_at hm, es_of hko (fun e he => he) (by simpa using hpr) ((RL.append r1 r2').stay S)⟩)
  have nw : News h₀ env.locals h' (upd p.1 (dictOf es3.toList ep) N) := by
    intro q hq
    obtain ⟨q', hq', rfl⟩ := List.mem_map.mp hq
    by_cases ee : q'.1 = p.1
    · rw [if_pos ee]; exact ⟨ho, (I.nw _ hm).2⟩
    · rw [if_neg ee]
      have y := I.nw q' hq'
      exact ⟨(sb.2 _ ee).trans y.1, y.2⟩
  exact kk _ _ _ _ _ ⟨I.fr.change sb (I.nw _ hm).2.1 (I.nw _ hm).2.2, nw, H, I.lc.stay S⟩ X rfl
/-- one dict into another -/
theorem snd_dictMeth {P : Pr} (OK : PrOK K P) {r : Rf} {ks : List (Str × GV)} {x : Str} {gs : List GV} {st st' : St} {c : List Prop} {g : GV} (h : dictMeth r ks x gs st = some (c, g, st')) (hc : AllP c) (e : st.ah.get r = some (.dict ks)) :
    st'.loc = st.loc ∧ x = "update" ∧ Wv K n (.obj r :: gs) (fun vs => call (.builtin "dict.update") vs) st.ah (rV K g) st'.ah := by
  cases gs with
  | nil => exact none_ne h
  | cons g2 gs => cases gs with
    | cons => exact none_ne h
    | nil => cases g2 with
      | obj r2 =>
        have h : mDict r ks x (.obj r2) st = _ := h
        unfold mDict at h
        dsimp only at h
        cases hx : x == ("update" : Str) with
        | false => rw [hx] at h; exact none_ne h
        | true =>
          rw [hx] at h
          apply rb_elim h hc
          clear h hc
          intro c₁ o st₁ c₂ h1 h2 hc
          obtain ⟨g1, S⟩ := deref_inv h1 hc.left
          cases o with
          | dict more =>
            unfold mUpd at h2
            dsimp only at h2
            cases q : (dictMeth.keysOk [] ks && dictMeth.keysOk ks more && !ks.isEmpty) && Nat.blt (ks.length + more.length) 1000 with
            | false => rw [q] at h2; exact none_ne h2
            | true =>
              rw [q] at h2
              cases h2
              obtain ⟨q, q2⟩ := Bool.and_eq_true_iff.mp q
              obtain ⟨q, qe⟩ := Bool.and_eq_true_iff.mp q
              obtain ⟨q0, q1⟩ := Bool.and_eq_true_iff.mp q
              refine ⟨S.1, beq_iff_eq.mp hx, ?_⟩
              unfold setAt
              dsimp only
              rw [S.2]
              exact wv_update OK q0 q1 qe q2 e g1
          | _ => exact none_ne h2
      | _ => exact none_ne h
end
end Mine
end

section
set_option maxRecDepth 100000
set_option autoImplicit false
set_option linter.unusedVariables false
set_option tactic.hygienic false
namespace Mine
open PySem PySem.W PySem.Calls PyProof.Rows

theorem tc_frames (A : Around) (C : Addr) (vs : List Value) : (A.under (.builtin "type.__call__" ⟨.ref C :: vs, []⟩)).frames = A.frames := by
  show pushEnvs [] A.frames = A.frames
  unfold pushEnvs
  cases A.frames <;> rfl
theorem tc_units (A : Around) (C : Addr) (vs : List Value) : (A.under (.builtin "type.__call__" ⟨.ref C :: vs, []⟩)).units ≤ A.units + 1 := Nat.le_refl _
theorem keeps_M0 {K : Frag} {M : Model} {f : Value} (hf : ∀ a, f ≠ .ref a) (h : Heap) (_ : K.In h) : ∃ k, (k = Keeper.frame ∨ k = Keeper.machine ∨ k = Keeper.boundFrame) ∧ Looks M h (keeperOf f) k :=
  ⟨.machine, .inr (.inl rfl), Looks.of_pure (by cases f <;> first | rfl | exact absurd rfl (hf _))⟩

section
variable {K : Frag} {P : Pr} {n : Nat}

/-- a call of a value that is known -/
theorem ClOK.call {f : Nat} {ga : List GV} {ah ah' : AH} {g : GV} (h : ClOK K n f ga ah g ah') {prog : Program} {w : World} {A : Around} {E : Value → Shared → Prop} {s : Shared} {h₀ : Heap} {env : Env} {sc : Scope} {loc : Loc} {φ : Phi} {N : Led} {m : Str → Option Value} {vs : List Value} {Q : Value → Shared → Prop}
    (C : CX K A h₀ env sc n) (I : Li K w.params h₀ env.locals loc ah φ N m s.heap) (hv : Vs K φ N ga vs)
    (k : ∀ φ' N' v h' tk, Li K w.params h₀ env.locals loc ah' φ' N' m h' → Ext φ ah N φ' ah' N' → V K φ' N' g v → Q v ⟨h', s.gens, s.drawn, tk, s.os⟩) : wpAny (model prog w) A (call (.ref f) vs) Q E s :=
  wpAny_call (h.2 C rfl C.hand (Nat.le_succ _) (Nat.le_succ _) I hv fun φ' N' v h' tk I' X' hv' => k φ' N' v h' tk I' X' hv')

/-- a new object -/
theorem snd_new (OK : PrOK K P) {q : Rg} {C : Nat} {ci : CI} {fi : Nat} (hC : P.cls.lookup C = some ci) (hi : ci.init = some fi) {gs : List GV} {ah ah' : AH}
    (h : ClOK K n fi (.obj (ah.nx q) :: gs) (ah.push q (.inst C [])) .none ah') : Wv K n gs (fun vs => call (.ref C) vs) ah (rV K (.obj (ah.nx q))) ah' := by
  intro prog w A E s h₀ env sc loc φ N m vs Q CC I hv kk
  have c := OK.cl _ _ hC
  obtain ⟨i1, i2⟩ := c.ini _ hi
  refine call_cls I.fr CC.kin I.nw c.mak i1 i2 fun x dx h' F' N' lt1 lt2 => ?_
  have fx : dx ∉ N.map (·.1) := fun q => by
    obtain ⟨p, hp, e⟩ := List.mem_map.mp q
    exact absurd (lt1 p hp) (by rw [e]; exact Nat.lt_irrefl _)
  have fy : x ∉ N.map (·.1) := fun q => by
    obtain ⟨p, hp, e⟩ := List.mem_map.mp q
    exact absurd (Nat.lt_trans (lt1 p hp) lt2) (by rw [e]; exact Nat.lt_irrefl _)
  obtain ⟨H, X, S⟩ := I.hr.push q (o := .inst C []) (p := (x, dx)) (N' := (x, instObj C dx) :: (dx, dictOf [] 0) :: N) (fun q hq => .tail _ (.tail _ hq))
    (by
      rw [List.map_cons, List.map_cons, List.nodup_cons, List.nodup_cons]
      exact ⟨fun q => by
        rcases List.mem_cons.mp q with e | q
        · exact Nat.ne_of_gt lt2 e
        · exact fy q, fx, I.hr.nd⟩)
    (fun b hb => by
      rcases List.mem_cons.mp hb with rfl | hb
      · exact fy
      · rw [List.mem_singleton.mp hb]; exact fx)
    (by
      show [x, dx].Nodup
      rw [List.nodup_cons]
      exact ⟨fun q => Nat.ne_of_gt lt2 (List.mem_singleton.mp q), by simp⟩) trivial
    (fun S => ⟨[], 0, .head _, .tail _ (.head _), rfl⟩)
  have I' : Li K w.params h₀ env.locals loc (ah.push q (.inst C [])) (φ.push q (x, dx)) ((x, instObj C dx) :: (dx, dictOf [] 0) :: N) m h' := ⟨F', N', H, I.lc.stay S⟩
  have vx : V K (φ.push q (x, dx)) ((x, instObj C dx) :: (dx, dictOf [] 0) :: N) (.obj (ah.nx q)) (.ref x) := by
    refine ⟨(x, dx), ?_, rfl⟩
    rw [← nx_eq I.hr.lc I.hr.ld I.hr.ln]; exact T3.get_push_self φ q _
  refine h.2 (s := { s with heap := h' }) (vs := .ref x :: vs) CC (tc_frames _ _ _) CC.hand (Nat.le_refl _) (tc_units _ _ _) I' ⟨_, vs, rfl, vx, Vs.stay S _ _ hv⟩ fun φ' N'' v h'' tk I'' X' hv' => ?_
  have hv' : v = .none := hv'
  subst hv'
  exact ⟨rfl, kk _ _ _ _ _ I'' (X.trans X') (V.stay (X'.stay I'.hr) _ _ vx)⟩

theorem evL_ns {ev : Expr → St → R GV} {es : List Expr} {st st' : St} {c : List Prop} {gs : List GV} (h : evL ev es st = some (c, gs, st')) : ∀ e ∈ es, ∀ x p, e ≠ .Starred x p := evL_star (ev := fun _ => ev) (sc := default) h

theorem star_all {es : List Expr} {pos : Pos} {env : Env} (ns : ∀ e ∈ es, ∀ x p, e ≠ .Starred x p) : (backTo pos (starEach es env)).all (!·.1) = true := by
  induction es with
  | nil => rfl
  | cons e es ih =>
    rw [starEach_cons (ns e (.head _))]
    show (true && (backTo pos (starEach es env)).all (!·.1)) = true
    rw [Bool.true_and]
    exact ih fun e he => ns e (.tail _ he)

/-- a plain callee with its arguments -/
theorem snd_callF {ev : Scope → Expr → St → R GV} {sc : Scope} {f : Expr} {args : List Expr} {pos : Pos} {loc : Loc} {ah ah1 ah2 ah3 : AH} {gf g : GV} {gs : List GV} (hf : ∀ o x p, f ≠ .Attribute o x p)
    (h1 : EvOK K n sc f loc ah gf ah1) (h2 : ArOK K n sc args loc ah1 gs ah2) (ns : ∀ e ∈ args, ∀ x p, e ≠ .Starred x p) {v : Value} (hv : ∀ φ N u, V K φ N gf u → u = v)
    (hk : ∀ {M : Model} (h : Heap), K.In h → ∃ k, (k = Keeper.frame ∨ k = Keeper.machine ∨ k = Keeper.boundFrame) ∧ Looks M h (keeperOf v) k)
    (h3 : Wv K n gs (fun vs => call v vs) ah2 (rV K g) ah3) : EvOK K n sc (.Call f args [] pos) loc ah g ah3 := by
  intro prog w A E s h₀ env φ N m Q C I k
  refine wpAny_CallF hf (h1 C I fun φ' N' u h' tk I' X' hu => ?_)
  rw [hv _ _ _ hu]
  refine h2.callWith (s := ⟨h', s.gens, s.drawn, tk, s.os⟩) ns C I' hk fun φ'' N'' vs h'' tk' I'' X'' hvs => ?_
  exact h3 (s := ⟨h'', s.gens, s.drawn, tk', s.os⟩) C I'' hvs fun φ3 N3 r h3' tk3 I3 X3 hr => k _ _ _ _ _ I3 ((X'.trans X'').trans X3) hr

theorem methOf_inv {C : Nat} {fs : List (Str × GV)} {x : Str} {m : Nat} (h : methOf P C fs x = some m) : ∃ ci, P.cls.lookup C = some ci ∧ ci.meths.lookup x = some m ∧ fs.lookup x = none := by
  unfold methOf at h
  cases q : P.cls.lookup C with
  | none => rw [q] at h; exact none_ne h
  | some ci =>
    rw [q] at h
    dsimp only at h
    cases q2 : fs.lookup x with
    | none => rw [q2] at h; exact ⟨ci, rfl, h, rfl⟩
    | some => rw [q2] at h; exact none_ne h
theorem initOf_inv {C fi : Nat} (h : initOf P C = some fi) : ∃ ci, P.cls.lookup C = some ci ∧ ci.init = some fi := by
  unfold initOf at h
  cases q : P.cls.lookup C with
  | none => rw [q] at h; exact none_ne h
  | some ci => rw [q] at h; exact ⟨ci, rfl, h⟩
/-- the method that is read off an object -/
noncomputable def GmOK (K : Frag) (n : Nat) (r : Rf) (x : Str) (fv : Value) (ah : AH) : Prop :=
  ∀ {prog : Program} {w : World} {A : Around} {E : Value → Shared → Prop} {s : Shared} {h₀ : Heap} {env : Env} {sc : Scope} {loc : Loc} {φ : Phi} {N : Led} {m : Str → Option Value} {v : Value} {pl : Sem Bool} {Q : Value × List Value → Shared → Prop}, CX K A h₀ env sc n →
    Li K w.params h₀ env.locals loc ah φ N m s.heap → V K φ N (.obj r) v → Q (fv, [v]) s → wpAny (model prog w) A (getMethod v x pl) Q E s
/-- a method's call -/
theorem EvOK.meth {sc : Scope} {o : Expr} {x : Str} {apos pos : Pos} {args : List Expr} {loc : Loc} {ah ah1 ah2 ah3 : AH} {r : Rf} {gs : List GV} {g : GV} {fv : Value} (q1 : isSuperCall o = false) (q2 : Nat.blt args.length 20 = true) (q3 : (apos.endLine == pos.line) = true)
    (e1 : EvOK K n sc o loc ah (.obj r) ah1) (e2 : ArOK K n sc args loc ah1 gs ah2) (ns : ∀ e ∈ args, ∀ x p, e ≠ .Starred x p) (gm : GmOK K n r x fv ah1)
    (hk : ∀ {M : Model} (h : Heap), K.In h → ∃ k, (k = Keeper.frame ∨ k = Keeper.machine ∨ k = Keeper.boundFrame) ∧ Looks M h (keeperOf fv) k) (e3 : Wv K n (.obj r :: gs) (fun vs => call fv vs) ah2 (rV K g) ah3) :
    EvOK K n sc (.Call (.Attribute o x apos) args [] pos) loc ah g ah3 := by
  intro prog w A E s h₀ env φ N m Q C I k
  refine wpAny_methodCall q1 q3 (blt_lt q2) (star_all ns) (e1 C I fun φ' N' u h' tk I' X' hu pl => ?_)
  refine gm (s := ⟨h', s.gens, s.drawn, tk, s.os⟩) C I' hu ?_
  refine e2.callWith (s := ⟨h', s.gens, s.drawn, tk, s.os⟩) ns C I' hk fun φ'' N'' vs h'' tk' I'' X'' hvs => ?_
  exact e3 (s := ⟨h'', s.gens, s.drawn, tk', s.os⟩) (vs := u :: vs) C I'' ⟨u, vs, rfl, V.stay (X''.stay I'.hr) _ _ hu, hvs⟩ fun φ3 N3 r h3' tk3 I3 X3 hr => k _ _ _ _ _ I3 ((X'.trans X'').trans X3) hr
/-- what is to be shown of an expression -/
noncomputable def EvR (K : Frag) (n : Nat) (sc : Scope) (e : Expr) (x : R GV) (st : St) : Prop := ∀ (c : List Prop) (g : GV) (st' : St), x = some (c, g, st') → AllP c → st'.loc = st.loc ∧ EvOK K n sc e st.loc st.ah g st'.ah
theorem EvR.none {sc : Scope} {e : Expr} {st : St} : EvR K n sc e none st := fun _ _ _ h _ => none_ne h
/-- first a part, then the rest -/
theorem EvR.bind {rc : Rc} {sc : Scope} {e x : Expr} (he : SndE K rc.ev n) {f : GV → St → R GV} {st : St}
    (k : ∀ g st₁ c g' st', st₁.loc = st.loc → EvOK K n sc x st.loc st.ah g st₁.ah → f g st₁ = some (c, g', st') → AllP c → st'.loc = st₁.loc ∧ EvOK K n sc e st.loc st.ah g' st'.ah) : EvR K n sc e (rb (rc.ev sc x st) f) st := fun _ _ _ h hc =>
  rb_elim h hc fun _ _ _ _ h1 h2 hc => by
    obtain ⟨l1, e1⟩ := he _ _ _ _ _ _ h1 hc.left
    obtain ⟨l2, e2⟩ := k _ _ _ _ _ l1 e1 h2 hc.right
    exact ⟨l2.trans l1, e2⟩
/-- the arguments, then the rest -/
theorem args_bind {rc : Rc} (he : SndE K rc.ev n) {sc : Scope} {args : List Expr} {f : List GV → St → R GV} {st st' : St} {c : List Prop} {g : GV} (h : rb (evL (rc.ev sc) args st) f = some (c, g, st')) (hc : AllP c) {p : Prop}
    (k : ∀ gs st₁ c, st₁.loc = st.loc → ArOK K n sc args st.loc st.ah gs st₁.ah → (∀ e ∈ args, ∀ x p, e ≠ .Starred x p) → f gs st₁ = some (c, g, st') → AllP c → p) : p :=
  rb_elim h hc fun _ _ _ _ h1 h2 hc => by
    obtain ⟨l1, e1⟩ := snd_args he args h1 hc.left
    exact k _ _ _ l1 e1 (evL_ns h1) h2 hc.right
section
variable {rc : Rc} {sc : Scope} {args : List Expr} {st st' : St} {c : List Prop} {g : GV}
/-- a plain callee -/
theorem callV_ok (OK : PrOK K P) (he : SndE K rc.ev n) (hcl : SndC K rc.cl n) {f : Expr} {pos : Pos} {loc : Loc} {ah : AH} {v : GV} (hf : ∀ o x p, f ≠ .Attribute o x p) (e1 : EvOK K n sc f loc ah v st.ah) (l : st.loc = loc)
    (h : callV P rc sc v args st = some (c, g, st')) (hc : AllP c) : st'.loc = st.loc ∧ EvOK K n sc (.Call f args [] pos) loc ah g st'.ah := by
  cases v with
  | fn a =>
    refine args_bind (f := fun gs st => rc.cl a gs st) he h hc fun gs st₁ c l1 e2 ns h2 hc => ?_
    obtain ⟨l3, e3⟩ := hcl _ _ _ _ _ _ h2 hc
    rw [l] at e2
    exact ⟨l3.trans l1, snd_callF (ev := rc.ev) hf e1 e2 ns (fun φ N u h => h) (fun h X => keeps_K e3.1 h X) (fun C I hv k => e3.call C I hv k)⟩
  | bi id =>
    refine args_bind (f := fun gs st => biCall id gs st) he h hc fun gs st₁ c l1 e2 ns h2 hc => ?_
    obtain ⟨l3, e3⟩ := snd_bi (K := K) (n := n) h2 hc
    rw [l] at e2
    exact ⟨l3.trans l1, snd_callF (ev := rc.ev) hf e1 e2 ns (fun φ N u h => h) (keeps_M0 fun a q => by cases q) e3⟩
  | ty id =>
    refine args_bind (f := fun gs st => tyCall id gs st) he h hc fun gs st₁ c l1 e2 ns h2 hc => ?_
    obtain ⟨l3, e3⟩ := snd_ty (K := K) (n := n) h2 hc
    rw [l] at e2
    exact ⟨l3.trans l1, snd_callF (ev := rc.ev) hf e1 e2 ns (fun φ N u h => h) (keeps_M0 fun a q => by cases q) e3⟩
  | cls C =>
    unfold callV at h
    dsimp only at h
    cases hi : initOf P C with
    | none => rw [hi] at h; exact none_ne h
    | some fi =>
      rw [hi] at h
      obtain ⟨ci, hci, hi⟩ := initOf_inv hi
      refine args_bind he h hc fun gs st₁ c l1 e2 ns h2 hc => ?_
      clear h
      unfold clsCall at h2
      apply rb_elim h2 hc
      clear h2 hc
      intro c₉ r st₅ c₁₀ h9 h10 hc
      obtain ⟨q, rfl, a1, a2⟩ := alloc_inv h9 hc.left
      apply rb_elim h10 hc.right
      clear h10
      intro c₇ gr st₄ c₈ h7 h8 hc4
      obtain ⟨l3, e3⟩ := hcl _ _ _ _ _ _ h7 hc4.left
      cases gr with
      | none =>
        cases h8
        rw [a2] at e3
        rw [l] at e2
        refine ⟨l3.trans (a1.trans l1), snd_callF (ev := rc.ev) hf e1 e2 ns (fun φ N u h => h) (fun h X => keeps_K (OK.cl _ _ hci).kp h X) (snd_new OK hci hi ?_)⟩
        exact e3
      | _ => exact none_ne h8
  | _ => exact none_ne h
/-- a method -/
theorem callM_ok (OK : PrOK K P) (he : SndE K rc.ev n) (hcl : SndC K rc.cl n) {o : Expr} {x : Str} {apos pos : Pos} {loc : Loc} {ah : AH} {r : Rf} {ob : AO} (q1 : isSuperCall o = false) (q2 : Nat.blt args.length 20 = true) (q3 : (apos.endLine == pos.line) = true)
    (e1 : EvOK K n sc o loc ah (.obj r) st.ah) (l : st.loc = loc) (d1 : st.ah.get r = some ob) (h : callM P rc sc r x args ob st = some (c, g, st')) (hc : AllP c) : st'.loc = st.loc ∧ EvOK K n sc (.Call (.Attribute o x apos) args [] pos) loc ah g st'.ah := by
  cases ob with
  | inst C fs =>
    unfold callM at h
    dsimp only at h
    cases hm : methOf P C fs x with
    | none => rw [hm] at h; exact none_ne h
    | some mm =>
      rw [hm] at h
      obtain ⟨ci, hci, hm, hl⟩ := methOf_inv hm
      refine args_bind he h hc fun gs st₁ c l1 e2 ns h2 hc => ?_
      obtain ⟨l3, e3⟩ := hcl _ _ _ _ _ _ h2 hc
      rw [l] at e2
      exact ⟨l3.trans l1, EvOK.meth q1 q2 q3 e1 e2 ns (fun C I hv k => r_meth C.kin I d1 hv (OK.cl _ _ hci) hm hl k) (fun h X => keeps_K e3.1 h X) (fun C I hv k => e3.call C I hv k)⟩
  | list xs0 =>
    unfold callM at h
    refine args_bind he h hc fun gs st₁ c l1 e2 ns h2 hc => ?_
    clear h
    apply rb_elim h2 hc
    clear h2 hc
    intro c₇ ob st₄ c₈ h7 h8 hc
    obtain ⟨d2, S2⟩ := deref_inv h7 hc.left
    cases ob with
    | list xs =>
      rw [← S2.2] at d2
      obtain ⟨l3, id, hid, e3⟩ := snd_listMeth (K := K) (n := n) h8 hc.right d2
      obtain ⟨slot, hty⟩ := listId_slot hid
      rw [S2.2] at e3
      rw [l] at e2
      exact ⟨l3.trans (S2.1.trans l1), EvOK.meth q1 q2 q3 e1 e2 ns (fun C I hv k => list_meth d1 slot hty I hv k) (keeps_M0 fun a q => by cases q) e3⟩
    | _ => exact none_ne h8
  | dict ks0 =>
    unfold callM at h
    refine args_bind he h hc fun gs st₁ c l1 e2 ns h2 hc => ?_
    clear h
    apply rb_elim h2 hc
    clear h2 hc
    intro c₇ ob st₄ c₈ h7 h8 hc
    obtain ⟨d2, S2⟩ := deref_inv h7 hc.left
    cases ob with
    | dict ks =>
      rw [← S2.2] at d2
      obtain ⟨l3, rfl, e3⟩ := snd_dictMeth (K := K) (n := n) OK h8 hc.right d2
      rw [S2.2] at e3
      rw [l] at e2
      refine ⟨l3.trans (S2.1.trans l1), EvOK.meth q1 q2 q3 e1 e2 ns (fun {prog w A E s h₀ env sc loc φ N m v pl Q} C I hv k => ?_) (keeps_M0 fun a q => by cases q) e3⟩
      obtain ⟨a, es, rfl, lo, he', M⟩ := mapOf_L (prog := prog) (s := s) I d1 hv C.kin OK.md
      exact getMethod_builtin (s := s) M.typeIs PySem.F.plainAttrs_dict PySem.F.slot_dict_update PySem.F.type_dict_update M.noDict k
    | _ => exact none_ne h8
theorem callA_ok (OK : PrOK K P) (he : SndE K rc.ev n) (hcl : SndC K rc.cl n) {o : Expr} {x : Str} {apos pos : Pos} : EvR K n sc (.Call (.Attribute o x apos) args [] pos) (callAt P rc sc o x apos args pos st) st := by
  unfold callAt
  cases q : (!isSuperCall o) && (Nat.blt args.length 20 && apos.endLine == pos.line) with
  | false => exact EvR.none
  | true =>
    obtain ⟨q1, q⟩ := Bool.and_eq_true_iff.mp q
    obtain ⟨q2, q3⟩ := Bool.and_eq_true_iff.mp q
    have q1 : isSuperCall o = false := by cases z : isSuperCall o with
      | false => rfl
      | true => rw [z] at q1; cases q1
    refine EvR.bind he fun v st₁ c g st' l1 e1 h2 hc => ?_
    cases v with
    | obj r =>
      unfold callO at h2
      apply rb_elim h2 hc
      clear h2 hc
      intro c₃ ob st₂ c₄ h3 h4 hc
      obtain ⟨d1, S1⟩ := deref_inv h3 hc.left
      rw [← S1.2] at d1 e1
      obtain ⟨a, b⟩ := callM_ok OK he hcl q1 q2 q3 e1 (S1.1.trans l1) d1 h4 hc.right
      exact ⟨a.trans S1.1, b⟩
    | _ => exact none_ne h2
theorem callF_ok (OK : PrOK K P) (he : SndE K rc.ev n) (hcl : SndC K rc.cl n) {f : Expr} {pos : Pos} (hf : ∀ o x p, f ≠ .Attribute o x p) : EvR K n sc (.Call f args [] pos) (callFn P rc sc f args st) st := by
  unfold callFn
  cases Nat.blt args.length 20 with
  | false => exact EvR.none
  | true => exact EvR.bind he fun v st₁ c g st' l1 e1 h2 hc => callV_ok OK he hcl hf e1 l1 h2 hc
theorem snd_call (OK : PrOK K P) (he : SndE K rc.ev n) (hcl : SndC K rc.cl n) {f : Expr} {pos : Pos} (h : callG P rc sc f args pos st = some (c, g, st')) (hc : AllP c) : st'.loc = st.loc ∧ EvOK K n sc (.Call f args [] pos) st.loc st.ah g st'.ah := by
  cases f with
  | Attribute => exact callA_ok OK he hcl _ _ _ h hc
  | _ => exact callF_ok OK he hcl (fun _ _ _ q => Expr.noConfusion q) _ _ _ h hc
end
end
end Mine
end

section
set_option maxRecDepth 100000
set_option autoImplicit false
set_option linter.unusedVariables false
namespace Mine
open PySem PySem.W PySem.Calls PyProof.Rows

structure OrOK (K : Frag) (n : Nat) (O : Orc) : Prop where
  call : ∀ f ga ah g ah', O.call f ga ah g ah' → ClOK K n f ga ah g ah'
  expr : ∀ sc e loc ah g ah', O.expr sc e loc ah g ah' → EvOK K n sc e loc ah g ah'
  stmt : ∀ sc s loc ah fl loc' ah', O.stmt sc s loc ah fl loc' ah' → StOK K n sc s loc ah fl loc' ah'

section
variable {K : Frag} {P : Pr} {n : Nat}

/-- two values, then a step upon them -/
theorem EvOK.two {sc : Scope} {e l r : Expr} {loc : Loc} {ah ah1 ah2 ah3 : AH} {ga gb g : GV} (f : Value → Value → Sem Value)
    (h1 : EvOK K n sc l loc ah ga ah1) (h2 : EvOK K n sc r loc ah1 gb ah2) (h3 : Wv K n [ga, gb] (t2 f) ah2 (rV K g) ah3)
    (he : ∀ {M : Model} {A : Around} {E : Value → Shared → Prop} {s : Shared} {env : Env} {Q : Value → Shared → Prop},
      wpAny M A (eval l env) (fun a s₁ => wpAny M A (eval r env) (fun b s₂ => wpAny M A (f a b) Q E s₂) E s₁) E s → wpAny M A (eval e env) Q E s) : EvOK K n sc e loc ah g ah3 := by
  intro prog w A E s h₀ env φ N m Q C I k
  refine he (h1 C I fun φ' N' u h' tk I' X' hu => ?_)
  refine h2 (s := ⟨h', s.gens, s.drawn, tk, s.os⟩) C I' fun φ'' N'' v h'' tk' I'' X'' hv => ?_
  exact h3 (s := ⟨h'', s.gens, s.drawn, tk', s.os⟩) (vs := [u, v]) C I'' ⟨u, [v], rfl, V.stay (X''.stay I'.hr) _ _ hu, v, [], rfl, hv, rfl⟩ fun φ3 N3 x h3' tk3 I3 X3 hx => k _ _ _ _ _ I3 ((X'.trans X'').trans X3) hx
theorem snd_pair (OK : PrOK K P) {ev : Scope → Expr → St → R GV} (he : SndE K ev n) {sc : Scope} {l r : Expr} {op : CmpOp} {st st' : St} {c : List Prop} {b : Bool} (h : pairG (ev sc) l op r st = some (c, b, st')) (hc : AllP c) :
    st'.loc = st.loc ∧ behindInMarks op r = false ∧ ∃ ga gb ah1 ah2, EvOK K n sc l st.loc st.ah ga ah1 ∧ EvOK K n sc r st.loc ah1 gb ah2 ∧ Wv K n [ga, gb] (t2 (compareOp op)) ah2 (isB b) st'.ah := by
  unfold pairG at h
  split at h
  · cases h
  · rename_i hb
    apply rb_elim h hc
    clear h hc
    intro c₁ ga st₁ c₂ h1 h2 hc
    apply rb_elim h2 hc.right
    clear h2
    intro c₃ gb st₂ c₄ h3 h4 hc2
    obtain ⟨l1, e1⟩ := he _ _ _ _ _ _ h1 hc.left
    obtain ⟨l2, e2⟩ := he _ _ _ _ _ _ h3 hc2.left
    obtain ⟨S, e3⟩ := snd_cmp (n := n) OK h4 hc2.right
    rw [l1] at e2
    exact ⟨S.1.trans (l2.trans l1), hb, ga, gb, st₁.ah, st₂.ah, e1, e2, e3⟩
theorem Wv.asV {op : CmpOp} {ga gb : GV} {b : Bool} {ah ah' : AH} (h : Wv K n [ga, gb] (t2 (compareOp op)) ah (isB b) ah') : Wv K n [ga, gb] (t2 (compareOp op)) ah (rV K (.bool b)) ah' :=
  fun C I hv k => h C I hv fun φ' N' v h' tk I' X' e => k _ _ _ _ _ I' X' e
theorem lastMarks2 {o1 o2 : CmpOp} {r1 r2 : Expr} (h : behindInMarks o2 r2 = false) : lastMarks [o1, o2] [r1, r2] = false := h

/-- a chain of two comparisons -/
theorem snd_chain (OK : PrOK K P) {ev : Scope → Expr → St → R GV} (he : SndE K ev n) {sc : Scope} {l r1 r2 : Expr} {o1 o2 : CmpOp} {st st' : St} {c : List Prop} {b : Bool} (h : chainG (ev sc) l o1 r1 o2 r2 st = some (c, b, st')) (hc : AllP c) :
    st'.loc = st.loc ∧ ∀ pos, EvOK K n sc (.Compare l [o1, o2] [r1, r2] pos) st.loc st.ah (.bool b) st'.ah ∧ TsOK K n sc (.Compare l [o1, o2] [r1, r2] pos) st.loc st.ah b st'.ah := by
  unfold chainG at h
  split at h
  · cases h
  · rename_i hb
    apply rb_elim h hc
    clear h hc
    intro c₁ ga st₁ c₂ h1 h2 hc
    apply rb_elim h2 hc.right
    clear h2
    intro c₃ gb st₂ c₄ h3 h4 hc2
    apply rb_elim h4 hc2.right
    clear h4
    intro c₅ b1 st₃ c₆ h5 h6 hc3
    apply rb_elim h6 hc3.right
    clear h6
    intro c₇ b2 st₄ c₈ h7 h8 hc4
    obtain ⟨l1, e1⟩ := he _ _ _ _ _ _ h1 hc.left
    obtain ⟨l2, e2⟩ := he _ _ _ _ _ _ h3 hc2.left
    obtain ⟨S, e3⟩ := snd_cmp (n := n) OK h5 hc3.left
    obtain ⟨rfl, S2⟩ := ask_inv h7 hc4.left
    rw [l1] at e2
    cases b1 with
    | false =>
      have h8 : rp false st₄ = some (c₈, b, st') := h8
      cases h8
      refine ⟨S2.1.trans (S.1.trans (l2.trans l1)), fun pos => ⟨?_, ?_⟩⟩
      · rw [S2.2]
        intro prog w A E s h₀ env φ N m Q C I k
        refine Compare_chain (e1 C I fun φ' N' u h' tk I' X' hu => chain_link ?_) (lastMarks2 hb)
        refine e2 (s := ⟨h', s.gens, s.drawn, tk, s.os⟩) C I' fun φ'' N'' v h'' tk' I'' X'' hv => ?_
        refine e3 (s := ⟨h'', s.gens, s.drawn, tk', s.os⟩) (vs := [u, v]) C I'' ⟨u, [v], rfl, V.stay (X''.stay I'.hr) _ _ hu, v, [], rfl, hv, rfl⟩ fun φ3 N3 x h3' tk3 I3 X3 hx => ?_
        have hx : x = .bool false := hx
        subst hx
        exact wpAny_truthy_bool (k _ _ _ _ _ I3 ((X'.trans X'').trans X3) rfl)
      · rw [S2.2]
        intro prog w A E s h₀ env φ N m Q C I k
        refine isTrue_chain (e1 C I fun φ' N' u h' tk I' X' hu => test_link ?_) (lastMarks2 hb)
        refine e2 (s := ⟨h', s.gens, s.drawn, tk, s.os⟩) C I' fun φ'' N'' v h'' tk' I'' X'' hv => ?_
        refine e3 (s := ⟨h'', s.gens, s.drawn, tk', s.os⟩) (vs := [u, v]) C I'' ⟨u, [v], rfl, V.stay (X''.stay I'.hr) _ _ hu, v, [], rfl, hv, rfl⟩ fun φ3 N3 x h3' tk3 I3 X3 hx => ?_
        have hx : x = .bool false := hx
        subst hx
        exact wpAny_truthy_bool (k _ _ _ _ I3 ((X'.trans X'').trans X3))
    | true =>
      apply rb_elim h8 hc4.right
      clear h8
      intro c₉ gd st₅ ca h9 ha hc5
      obtain ⟨l4, e4⟩ := he _ _ _ _ _ _ h9 hc5.left
      obtain ⟨S5, e5⟩ := snd_cmp (n := n) OK ha hc5.right
      have ll : st₄.loc = st.loc := S2.1.trans (S.1.trans (l2.trans l1))
      rw [ll, S2.2] at e4
      refine ⟨S5.1.trans (l4.trans ll), fun pos => ⟨?_, ?_⟩⟩
      · intro prog w A E s h₀ env φ N m Q C I k
        refine Compare_chain (e1 C I fun φ' N' u h' tk I' X' hu => chain_link ?_) (lastMarks2 hb)
        refine e2 (s := ⟨h', s.gens, s.drawn, tk, s.os⟩) C I' fun φ'' N'' v h'' tk' I'' X'' hv => ?_
        refine e3 (s := ⟨h'', s.gens, s.drawn, tk', s.os⟩) (vs := [u, v]) C I'' ⟨u, [v], rfl, V.stay (X''.stay I'.hr) _ _ hu, v, [], rfl, hv, rfl⟩ fun φ3 N3 x h3' tk3 I3 X3 hx => ?_
        have hx : x = .bool true := hx
        subst hx
        refine wpAny_truthy_bool (chain_last ?_)
        refine e4 (s := ⟨h3', s.gens, s.drawn, tk3, s.os⟩) C I3 fun φ4 N4 y h4' tk4 I4 X4 hy => ?_
        exact e5.asV (s := ⟨h4', s.gens, s.drawn, tk4, s.os⟩) (vs := [v, y]) C I4 ⟨v, [y], rfl, V.stay (X4.stay I3.hr) _ _ (V.stay (X3.stay I''.hr) _ _ hv), y, [], rfl, hy, rfl⟩ fun φ5 N5 z h5' tk5 I5 X5 hz => k _ _ _ _ _ I5 ((((X'.trans X'').trans X3).trans X4).trans X5) hz
      · intro prog w A E s h₀ env φ N m Q C I k
        refine isTrue_chain (e1 C I fun φ' N' u h' tk I' X' hu => test_link ?_) (lastMarks2 hb)
        refine e2 (s := ⟨h', s.gens, s.drawn, tk, s.os⟩) C I' fun φ'' N'' v h'' tk' I'' X'' hv => ?_
        refine e3 (s := ⟨h'', s.gens, s.drawn, tk', s.os⟩) (vs := [u, v]) C I'' ⟨u, [v], rfl, V.stay (X''.stay I'.hr) _ _ hu, v, [], rfl, hv, rfl⟩ fun φ3 N3 x h3' tk3 I3 X3 hx => ?_
        have hx : x = .bool true := hx
        subst hx
        refine wpAny_truthy_bool (test_last ?_)
        refine e4 (s := ⟨h3', s.gens, s.drawn, tk3, s.os⟩) C I3 fun φ4 N4 y h4' tk4 I4 X4 hy => ?_
        refine e5 (s := ⟨h4', s.gens, s.drawn, tk4, s.os⟩) (vs := [v, y]) C I4 ⟨v, [y], rfl, V.stay (X4.stay I3.hr) _ _ (V.stay (X3.stay I''.hr) _ _ hv), y, [], rfl, hy, rfl⟩ fun φ5 N5 z h5' tk5 I5 X5 hz => ?_
        have hz : z = .bool b := hz
        subst hz
        exact wpAny_truthy_bool (k _ _ _ _ I5 ((((X'.trans X'').trans X3).trans X4).trans X5))
end
end Mine
end

section
set_option maxRecDepth 100000
set_option autoImplicit false
set_option linter.unusedVariables false
set_option tactic.hygienic false
namespace Mine
open PySem PySem.W PySem.Calls PyProof.Rows

section
variable {K : Frag} {P : Pr} {n : Nat}

theorem snd_boolG {ev : Scope → Expr → St → R GV} (he : SndE K ev n) {sc : Scope} {op : BoolOp} : ∀ (es : List Expr) {st st' : St} {c : List Prop} {g : GV}, boolG (ev sc) (op == .Or) es st = some (c, g, st') → AllP c →
    st'.loc = st.loc ∧ ∀ pos, EvOK K n sc (.BoolOp op es pos) st.loc st.ah g st'.ah
  | [], _, _, _, _, h, _ => by unfold boolG at h; cases h
  | [e], st, st', c, g, h, hc => by
    unfold boolG at h
    obtain ⟨l1, e1⟩ := he _ _ _ _ _ _ h hc
    refine ⟨l1, fun pos => ?_⟩
    intro prog w A E s h₀ env φ N m Q C I k
    exact BoolOp_one (e1 C I k)
  | e1 :: e2 :: rest, st, st', c, g, h, hc => by
    unfold boolG at h
    apply rb_elim h hc
    clear h hc
    intro c₁ ga st₁ c₂ h1 h2 hc
    apply rb_elim h2 hc.right
    clear h2
    intro c₃ b st₂ c₄ h3 h4 hc2
    apply rb_elim h4 hc2.right
    clear h4
    intro c₅ b1 st₃ c₆ h5 h6 hc3
    obtain ⟨l1, x1⟩ := he _ _ _ _ _ _ h1 hc.left
    obtain ⟨S, x2⟩ := snd_truthy (K := K) (n := n) h3 hc2.left
    obtain ⟨rfl, S2⟩ := ask_inv h5 hc3.left
    have ll : st₃.loc = st.loc := S2.1.trans (S.1.trans l1)
    cases op with
    | And =>
      cases b with
      | true =>
        have h6 : boolG (ev sc) false (e2 :: rest) st₃ = some (c₆, g, st') := h6
        obtain ⟨l3, x3⟩ := snd_boolG he (op := .And) (e2 :: rest) h6 hc3.right
        rw [ll, S2.2] at x3
        refine ⟨l3.trans ll, fun pos => ?_⟩
        intro prog w A E s h₀ env φ N m Q C I k
        refine BoolOp_and (x1 C I fun φ' N' u h' tk I' X' hu => ?_)
        refine x2 (s := ⟨h', s.gens, s.drawn, tk, s.os⟩) (vs := [u]) C I' ⟨u, [], rfl, hu, rfl⟩ fun φ'' N'' v h'' tk' I'' X'' hv => ?_
        have hv : v = true := hv
        subst hv
        exact x3 pos (s := ⟨h'', s.gens, s.drawn, tk', s.os⟩) C I'' fun φ3 N3 x h3' tk3 I3 X3 hx => k _ _ _ _ _ I3 ((X'.trans X'').trans X3) hx
      | false =>
        have h6 : rp ga st₃ = some (c₆, g, st') := h6
        cases h6
        refine ⟨ll, fun pos => ?_⟩
        rw [S2.2]
        intro prog w A E s h₀ env φ N m Q C I k
        refine BoolOp_and (x1 C I fun φ' N' u h' tk I' X' hu => ?_)
        refine x2 (s := ⟨h', s.gens, s.drawn, tk, s.os⟩) (vs := [u]) C I' ⟨u, [], rfl, hu, rfl⟩ fun φ'' N'' v h'' tk' I'' X'' hv => ?_
        have hv : v = false := hv
        subst hv
        exact k _ _ _ _ _ I'' (X'.trans X'') (V.stay (X''.stay I'.hr) _ _ hu)
    | Or =>
      cases b with
      | false =>
        have h6 : boolG (ev sc) true (e2 :: rest) st₃ = some (c₆, g, st') := h6
        obtain ⟨l3, x3⟩ := snd_boolG he (op := .Or) (e2 :: rest) h6 hc3.right
        rw [ll, S2.2] at x3
        refine ⟨l3.trans ll, fun pos => ?_⟩
        intro prog w A E s h₀ env φ N m Q C I k
        refine BoolOp_or (x1 C I fun φ' N' u h' tk I' X' hu => ?_)
        refine x2 (s := ⟨h', s.gens, s.drawn, tk, s.os⟩) (vs := [u]) C I' ⟨u, [], rfl, hu, rfl⟩ fun φ'' N'' v h'' tk' I'' X'' hv => ?_
        have hv : v = false := hv
        subst hv
        exact x3 pos (s := ⟨h'', s.gens, s.drawn, tk', s.os⟩) C I'' fun φ3 N3 x h3' tk3 I3 X3 hx => k _ _ _ _ _ I3 ((X'.trans X'').trans X3) hx
      | true =>
        have h6 : rp ga st₃ = some (c₆, g, st') := h6
        cases h6
        refine ⟨ll, fun pos => ?_⟩
        rw [S2.2]
        intro prog w A E s h₀ env φ N m Q C I k
        refine BoolOp_or (x1 C I fun φ' N' u h' tk I' X' hu => ?_)
        refine x2 (s := ⟨h', s.gens, s.drawn, tk, s.os⟩) (vs := [u]) C I' ⟨u, [], rfl, hu, rfl⟩ fun φ'' N'' v h'' tk' I'' X'' hv => ?_
        have hv : v = true := hv
        subst hv
        exact k _ _ _ _ _ I'' (X'.trans X'') (V.stay (X''.stay I'.hr) _ _ hu)

theorem snd_boolT {ts : Scope → Expr → St → R Bool} (ht : SndT K ts n) {sc : Scope} {op : BoolOp} : ∀ (es : List Expr) {st st' : St} {c : List Prop} {g : Bool}, boolT (ts sc) (op == .Or) es st = some (c, g, st') → AllP c →
    st'.loc = st.loc ∧ ∀ pos, TsOK K n sc (.BoolOp op es pos) st.loc st.ah g st'.ah
  | [], st, st', c, g, h, _ => by
    unfold boolT at h
    cases op with
    | And =>
      have h : rp true st = some (c, g, st') := h
      cases h
      refine ⟨rfl, fun pos => ?_⟩
      intro prog w A E s h₀ env φ N m Q C I k
      exact isTrue_and_nil (k _ _ _ _ I (Ext.refl ..))
    | Or =>
      have h : rp false st = some (c, g, st') := h
      cases h
      refine ⟨rfl, fun pos => ?_⟩
      intro prog w A E s h₀ env φ N m Q C I k
      exact isTrue_or_nil (k _ _ _ _ I (Ext.refl ..))
  | e1 :: rest, st, st', c, g, h, hc => by
    unfold boolT at h
    apply rb_elim h hc
    clear h hc
    intro c₁ b st₁ c₂ h1 h2 hc
    apply rb_elim h2 hc.right
    clear h2
    intro c₅ b1 st₃ c₆ h5 h6 hc2
    obtain ⟨l1, x1⟩ := ht _ _ _ _ _ _ h1 hc.left
    obtain ⟨rfl, S2⟩ := ask_inv h5 hc2.left
    have ll : st₃.loc = st.loc := S2.1.trans l1
    cases op with
    | And =>
      cases b with
      | true =>
        have h6 : boolT (ts sc) false rest st₃ = some (c₆, g, st') := h6
        obtain ⟨l3, x3⟩ := snd_boolT ht (op := .And) rest h6 hc2.right
        rw [ll, S2.2] at x3
        refine ⟨l3.trans ll, fun pos => ?_⟩
        intro prog w A E s h₀ env φ N m Q C I k
        refine isTrue_and (x1 C I fun φ' N' h' tk I' X' => ?_)
        exact x3 pos (s := ⟨h', s.gens, s.drawn, tk, s.os⟩) C I' fun φ3 N3 h3' tk3 I3 X3 => k _ _ _ _ I3 (X'.trans X3)
      | false =>
        have h6 : rp false st₃ = some (c₆, g, st') := h6
        cases h6
        refine ⟨ll, fun pos => ?_⟩
        rw [S2.2]
        intro prog w A E s h₀ env φ N m Q C I k
        exact isTrue_and (x1 C I fun φ' N' h' tk I' X' => k _ _ _ _ I' X')
    | Or =>
      cases b with
      | false =>
        have h6 : boolT (ts sc) true rest st₃ = some (c₆, g, st') := h6
        obtain ⟨l3, x3⟩ := snd_boolT ht (op := .Or) rest h6 hc2.right
        rw [ll, S2.2] at x3
        refine ⟨l3.trans ll, fun pos => ?_⟩
        intro prog w A E s h₀ env φ N m Q C I k
        refine isTrue_or (x1 C I fun φ' N' h' tk I' X' => ?_)
        exact x3 pos (s := ⟨h', s.gens, s.drawn, tk, s.os⟩) C I' fun φ3 N3 h3' tk3 I3 X3 => k _ _ _ _ I3 (X'.trans X3)
      | true =>
        have h6 : rp true st₃ = some (c₆, g, st') := h6
        cases h6
        refine ⟨ll, fun pos => ?_⟩
        rw [S2.2]
        intro prog w A E s h₀ env φ N m Q C I k
        exact isTrue_or (x1 C I fun φ' N' h' tk I' X' => k _ _ _ _ I' X')

/-- the class of what an item is read of -/
theorem item_type {a b : GV} {st st' : St} {c : List Prop} {g : GV} (h : getItemG a b st = some (c, g, st')) (hc : AllP c) {w : World} {s : Shared} {h₀ : Heap} {L : Addr} {loc : Loc} {φ : Phi} {N : Led} {m : Str → Option Value} {v : Value}
    (X₀ : K.In h₀) (I : Li K w.params h₀ L loc st.ah φ N m s.heap) (hv : V K φ N a v) : ∃ T id, s.TypeIs v T ∧ typeLookup (.type T) "__getitem__" = pure (some (.builtin id)) := by
  cases a with
  | obj r => cases b with
    | int j =>
      apply rb_elim (f := fun o st => getLO o j st) h hc
      clear h hc
      intro c₁ o st₁ c₂ h1 h2 hc
      obtain ⟨g1, S⟩ := deref_inv h1 hc.left
      cases o with
      | list xs =>
        obtain ⟨p, vs, k, hp, rfl, hm, hx, L⟩ := I.list g1 hv
        exact ⟨_, _, L.typeIs, slot_list_getitem.lookup⟩
      | _ => exact none_ne h2
    | str x =>
      apply rb_elim (f := fun o st => getDO o x st) h hc
      clear h hc
      intro c₁ o st₁ c₂ h1 h2 hc
      obtain ⟨g1, S⟩ := deref_inv h1 hc.left
      cases o with
      | dict xs =>
        obtain ⟨p, es, k, hp, rfl, hm, hx⟩ := I.dict g1 hv
        exact ⟨"dict", _, ⟨_, (I.nw _ hm).1, rfl⟩, slot_dict_getitem.lookup⟩
      | _ => exact none_ne h2
    | _ => exact none_ne h
  | tup xs =>
    obtain ⟨ad, ws, rfl, hx, T⟩ := I.tup X₀ hv
    exact ⟨_, _, T.typeIs, slot_tuple_getitem.lookup⟩
  | str x =>
    obtain ⟨t, rfl⟩ := V.str_inv hv
    exact ⟨"str", _, typeIs_str s _ t, PySem.F.slot_str_getitem.lookup⟩
  | _ => exact none_ne h

theorem snd_orE {O : Orc} (OO : OrOK K n O) {sc : Scope} {e : Expr} {st st' : St} {c : List Prop} {g : GV} (h : orE O sc e st = some (c, g, st')) (hc : AllP c) : st'.loc = st.loc ∧ EvOK K n sc e st.loc st.ah g st'.ah := by
  unfold orE at h
  cases q : hintE st.hs with
  | none => rw [q] at h; exact none_ne h
  | some u => rw [q] at h; cases h; exact ⟨rfl, OO.expr _ _ _ _ _ _ hc.one⟩

theorem constValue_plain {env : Env} {M : Model} {A : Around} {E : Value → Shared → Prop} {s : Shared} : True := trivial
end
end Mine
end

section
set_option maxRecDepth 100000
set_option autoImplicit false
set_option linter.unusedVariables false
set_option tactic.hygienic false
namespace Mine
open PySem PySem.W PySem.Calls PyProof.Rows

section
variable {K : Frag} {P : Pr} {O : Orc} {n : Nat} {rc : Rc}

theorem EvOK.not {sc : Scope} {x : Expr} {loc : Loc} {ah ah1 ah2 : AH} {g : GV} {b : Bool} {pos : Pos} (h1 : EvOK K n sc x loc ah g ah1) (h2 : Wv K n [g] (t1 truthy) ah1 (isD b) ah2) : EvOK K n sc (.UnaryOp .Not x pos) loc ah (.bool (!b)) ah2 := by
  intro prog w A E s h₀ env φ N m Q C I k
  refine UnaryOp_ (h1 C I fun φ' N' u h' tk I' X' hu => not_of ?_)
  refine h2 (s := ⟨h', s.gens, s.drawn, tk, s.os⟩) (vs := [u]) C I' ⟨u, [], rfl, hu, rfl⟩ fun φ'' N'' v h'' tk' I'' X'' hv => ?_
  have hv : v = b := hv
  subst hv
  exact k _ _ _ _ _ I'' (X'.trans X'') rfl
theorem EvOK.neg {sc : Scope} {x : Expr} {loc : Loc} {ah ah1 : AH} {i : Int} {pos : Pos} (h1 : EvOK K n sc x loc ah (.int i) ah1) : EvOK K n sc (.UnaryOp .USub x pos) loc ah (.int (-i)) ah1 := by
  intro prog w A E s h₀ env φ N m Q C I k
  refine UnaryOp_ (h1 C I fun φ' N' u h' tk I' X' hu => ?_)
  obtain ⟨t, rfl⟩ := V.int_inv hu
  exact PyProof.Rows.neg_int (k _ _ _ _ _ I' X' ⟨_, rfl⟩)
theorem EvOK.tup {sc : Scope} {es : List Expr} {loc : Loc} {ah ah1 : AH} {gs : List GV} {pos : Pos} {kk : Nat} (h1 : ArOK K n sc es loc ah gs ah1) (hz : es.length < 1000) (hl : gs.length ≤ es.length) : EvOK K n sc (.Tuple es kk pos) loc ah (.tup gs) ah1 := by
  intro prog w A E s h₀ env φ N m Q C I k
  rw [arm_eval_Tuple]
  refine wpAny_bind (wpAny_standAt (wpAny_bind (h1.2 C I fun φ' N' vs h' tk I' X' hv => ?_)))
  have := hv.length
  exact Li.newTup (s := ⟨h', s.gens, s.drawn, tk, s.os⟩) I' hv (by omega) fun N'' v h'' tk' I'' X'' hv' => k _ _ _ _ _ I'' (X'.trans X'') hv'
theorem EvOK.lst {sc : Scope} {es : List Expr} {loc : Loc} {ah ah1 : AH} {gs : List GV} {pos : Pos} (h1 : ArOK K n sc es loc ah gs ah1) (hz : es.length < 1000) (hl : gs.length ≤ es.length) (q : Rg) : EvOK K n sc (.List es pos) loc ah (.obj (ah1.nx q)) (ah1.push q (.list gs)) := by
  intro prog w A E s h₀ env φ N m Q C I k
  rw [arm_eval_List]
  refine wpAny_bind (wpAny_standAt (wpAny_bind (h1.2 C I fun φ' N' vs h' tk I' X' hv => ?_)))
  have := hv.length
  exact Li.newList (s := ⟨h', s.gens, s.drawn, tk, s.os⟩) I' q hv (by omega) fun φ'' N'' v h'' tk' I'' X'' hv' => k _ _ _ _ _ I'' (X'.trans X'') hv'
theorem evL_length {ev : Expr → St → R GV} : ∀ {es : List Expr} {st : St} {c : List Prop} {gs : List GV} {st' : St}, evL ev es st = some (c, gs, st') → gs.length = es.length
  | [], _, _, _, _, h => by cases h; rfl
  | e :: es, st, c, gs, st', h => by
    obtain ⟨ns, c₁, g, st₁, c₂, r, h1, h2, rfl, rfl⟩ := evL_cons h
    rw [List.length_cons, List.length_cons, evL_length h2]
theorem EvOK.ifE {sc : Scope} {t b o : Expr} {pos : Pos} {loc : Loc} {ah ah1 ah2 : AH} {c : Bool} {g : GV} (h1 : TsOK K n sc t loc ah c ah1) (h2 : EvOK K n sc (if c then b else o) loc ah1 g ah2) : EvOK K n sc (.IfExp t b o pos) loc ah g ah2 := by
  intro prog w A E s h₀ env φ N m Q C I k
  refine IfExp_ (h1 C I fun φ' N' h' tk I' X' => ?_)
  cases c with
  | true => exact h2 (s := ⟨h', s.gens, s.drawn, tk, s.os⟩) C I' fun φ'' N'' v h'' tk' I'' X'' hv => k _ _ _ _ _ I'' (X'.trans X'') hv
  | false => exact h2 (s := ⟨h', s.gens, s.drawn, tk, s.os⟩) C I' fun φ'' N'' v h'' tk' I'' X'' hv => k _ _ _ _ _ I'' (X'.trans X'') hv

theorem EvR.rp {sc : Scope} {e : Expr} {g : GV} {st : St} (x : EvOK K n sc e st.loc st.ah g st.ah) : EvR K n sc e (rp g st) st := fun _ _ _ h _ => by
  cases h; exact ⟨rfl, x⟩
theorem EvR.orE (OO : OrOK K n O) {sc : Scope} {e : Expr} {st : St} : EvR K n sc e (orE O sc e st) st := fun _ _ _ h hc => snd_orE OO h hc
theorem EvR.hint (OO : OrOK K n O) {sc : Scope} {e : Expr} {g : GV} {ah : AH} {r : List H} {st : St} : EvR K n sc e (some ([O.expr sc e st.loc st.ah g ah], g, ⟨st.loc, ah, r⟩)) st := fun _ _ _ h hc => by
  cases h; exact ⟨rfl, OO.expr _ _ _ _ _ _ hc.one⟩
theorem evName_ok (OK : PrOK K P) {sc : Scope} {x : Str} {p : Pos} {st : St} : EvR K n sc (.Name x p) (nameG P sc x st) st := fun c g st' h hc => by
  obtain ⟨e, _⟩ := nameG_inv h
  subst e
  refine ⟨rfl, ?_⟩
  intro prog w A E s h₀ env φ N m Q C I k
  exact (snd_name OK C h I fun v hv => k _ _ _ s.heap s.toks I (Ext.refl ..) hv).2
theorem evConst_ok {sc : Scope} {v : Const} {kk : Nat} {p : Pos} {st : St} : EvR K n sc (.Constant v kk p) (evConst v st) st := by
  cases v with
  | none => exact EvR.rp fun _ I k => Constant_none (k _ _ _ _ _ I (Ext.refl ..) rfl)
  | bool b => exact EvR.rp fun _ I k => Constant_bool (k _ _ _ _ _ I (Ext.refl ..) rfl)
  | int i => exact EvR.rp fun _ I k => wpAny_Constant_int (k _ _ _ _ _ I (Ext.refl ..) ⟨_, rfl⟩)
  | str x => exact EvR.rp fun _ I k => wpAny_Constant_str (k _ _ _ _ _ I (Ext.refl ..) ⟨_, rfl⟩)
  | _ => exact EvR.none
theorem evCall_ok (OK : PrOK K P) (he : SndE K rc.ev n) (hcl : SndC K rc.cl n) {sc : Scope} {f : Expr} {args : List Expr} {kws : List Keyword} {p : Pos} {st : St} : EvR K n sc (.Call f args kws p) (evCall P rc sc f args kws p st) st := by
  cases kws with
  | nil => exact fun _ _ _ h hc => snd_call OK he hcl h hc
  | cons => exact EvR.none
theorem evCallO_ok (OK : PrOK K P) (OO : OrOK K n O) (he : SndE K rc.ev n) (hcl : SndC K rc.cl n) {sc : Scope} {f : Expr} {args : List Expr} {kws : List Keyword} {p : Pos} {st : St} : EvR K n sc (.Call f args kws p) (evCallO P O rc sc f args kws p st) st := by
  unfold evCallO
  cases hintE st.hs with
  | none => exact evCall_ok OK he hcl
  | some q =>
    dsimp only
    cases isOracle f with
    | true => exact EvR.hint OO
    | false => exact evCall_ok OK he hcl
theorem evIf_ok (he : SndE K rc.ev n) (ht : SndT K rc.ts n) {sc : Scope} {t b o : Expr} {p : Pos} {st : St} : EvR K n sc (.IfExp t b o p) (evIf rc sc t b o st) st := fun c g st' h hc => by
  apply rb_elim h hc
  clear h hc
  intro c₁ b st₁ c₂ h1 h2 hc
  apply rb_elim h2 hc.right
  clear h2
  intro c₃ b1 st₂ c₄ h3 h4 hc2
  obtain ⟨l1, e1⟩ := ht _ _ _ _ _ _ h1 hc.left
  obtain ⟨rfl, S⟩ := ask_inv h3 hc2.left
  have S2 := S.2
  have l2 := S.1.trans l1
  cases b with
  | true =>
    obtain ⟨l3, e2⟩ := he _ _ _ _ _ _ h4 hc2.right
    rw [S2, l2] at e2
    exact ⟨l3.trans l2, EvOK.ifE (c := true) e1 e2⟩
  | false =>
    obtain ⟨l3, e2⟩ := he _ _ _ _ _ _ h4 hc2.right
    rw [S2, l2] at e2
    exact ⟨l3.trans l2, EvOK.ifE (c := false) e1 e2⟩
theorem evIfO_ok (OO : OrOK K n O) (he : SndE K rc.ev n) (ht : SndT K rc.ts n) {sc : Scope} {t b o : Expr} {p : Pos} {st : St} : EvR K n sc (.IfExp t b o p) (evIfO O rc sc t b o p st) st := by
  unfold evIfO
  cases hintE st.hs with
  | none => exact evIf_ok he ht
  | some q => exact EvR.hint OO
theorem evAttr_ok (OK : PrOK K P) (he : SndE K rc.ev n) {sc : Scope} {o : Expr} {x : Str} {p : Pos} {st : St} : EvR K n sc (.Attribute o x p) (evAttr P rc sc o x st) st := by
  unfold evAttr
  cases hs : isSuperCall o with
  | true => exact EvR.none
  | false =>
    refine EvR.bind he fun v st₁ c g st' l1 e1 h2 hc => ?_
    obtain ⟨S, e2⟩ := snd_getAttr (n := n) OK h2 hc
    refine ⟨S.1, ?_⟩
    rw [S.2]
    intro prog w A E s h₀ env φ N m Q C I k
    refine wpAny_Attribute hs (e1 C I fun φ' N' u h' tk I' X' hu => ?_)
    exact e2 (s := ⟨h', s.gens, s.drawn, tk, s.os⟩) C I' hu fun x tk' hx => k _ _ _ _ _ I' X' hx
theorem sides_inv : ∀ {ops : List CmpOp} {rs : List Expr} {q : (CmpOp × Expr) × Option (CmpOp × Expr)}, sides ops rs = some q → match q.2 with
    | none => ops = [q.1.1] ∧ rs = [q.1.2]
    | some u => ops = [q.1.1, u.1] ∧ rs = [q.1.2, u.2]
  | [], _, _, h => by cases h
  | _ :: _, [], _, h => by cases h
  | [_], [_], _, h => by cases h; exact ⟨rfl, rfl⟩
  | [_], _ :: _ :: _, _, h => by cases h
  | _ :: _ :: _, [_], _, h => by cases h
  | [_, _], [_, _], _, h => by cases h; exact ⟨rfl, rfl⟩
  | [_, _], _ :: _ :: _ :: _, _, h => by cases h
  | _ :: _ :: _ :: _, _ :: _ :: _, _, h => by cases h
theorem TsOK.pair {sc : Scope} {l r : Expr} {op : CmpOp} {p : Pos} {b : Bool} {loc : Loc} {ah ah1 ah2 ah3 : AH} {ga gb : GV} (hb : behindInMarks op r = false) (e1 : EvOK K n sc l loc ah ga ah1) (e2 : EvOK K n sc r loc ah1 gb ah2) (e3 : Wv K n [ga, gb] (t2 (compareOp op)) ah2 (isB b) ah3) :
    TsOK K n sc (.Compare l [op] [r] p) loc ah b ah3 := by
  intro prog w A E s h₀ env φ N m Q C I k
  refine wpAny_isTrue_Compare1 (e1 C I fun φ' N' u h' tk I' X' hu => ?_) hb
  refine e2 (s := ⟨h', s.gens, s.drawn, tk, s.os⟩) C I' fun φ'' N'' v h'' tk' I'' X'' hv => ?_
  refine e3 (s := ⟨h'', s.gens, s.drawn, tk', s.os⟩) (vs := [u, v]) C I'' ⟨u, [v], rfl, V.stay (X''.stay I'.hr) _ _ hu, v, [], rfl, hv, rfl⟩ fun φ3 N3 x h3' tk3 I3 X3 hx => ?_
  have hx : x = .bool b := hx
  subst hx
  exact wpAny_truthy_bool (k _ _ _ _ I3 ((X'.trans X'').trans X3))
theorem cmpB_ok (OK : PrOK K P) (he : SndE K rc.ev n) {sc : Scope} {l : Expr} {ops : List CmpOp} {rs : List Expr} {p : Pos} {st st' : St} {c : List Prop} {b : Bool} (h : cmpB rc sc l ops rs st = some (c, b, st')) (hc : AllP c) :
    st'.loc = st.loc ∧ EvOK K n sc (.Compare l ops rs p) st.loc st.ah (.bool b) st'.ah ∧ TsOK K n sc (.Compare l ops rs p) st.loc st.ah b st'.ah := by
  unfold cmpB at h
  cases q : sides ops rs with
  | none => rw [q] at h; cases h
  | some u =>
    have z := sides_inv q
    rw [q] at h
    obtain ⟨⟨o1, r1⟩, u⟩ := u
    cases u with
    | none =>
      obtain ⟨rfl, rfl⟩ := z
      obtain ⟨l, hb, ga, gb, ah1, ah2, e1, e2, e3⟩ := snd_pair OK he h hc
      exact ⟨l, EvOK.two _ e1 e2 e3.asV fun h => wpAny_Compare1 h hb, TsOK.pair hb e1 e2 e3⟩
    | some u =>
      obtain ⟨o2, r2⟩ := u
      obtain ⟨rfl, rfl⟩ := z
      obtain ⟨l, e⟩ := snd_chain OK he h hc
      exact ⟨l, e _⟩
theorem evCmp_ok (OK : PrOK K P) (he : SndE K rc.ev n) {sc : Scope} {l : Expr} {ops : List CmpOp} {rs : List Expr} {p : Pos} {st : St} : EvR K n sc (.Compare l ops rs p) (evCmp rc sc l ops rs st) st := fun c g st' h hc => by
  apply rb_elim h hc
  clear h hc
  intro c₁ b st₁ c₂ h1 h2 hc
  cases h2
  obtain ⟨l, e, _⟩ := cmpB_ok (p := p) OK he h1 hc.left
  exact ⟨l, e⟩
theorem evUn_ok (he : SndE K rc.ev n) {sc : Scope} {op : UnaryOp} {x : Expr} {p : Pos} {st : St} : EvR K n sc (.UnaryOp op x p) (evUn rc sc op x st) st := by
  cases op with
  | Not =>
    refine EvR.bind he fun v st₁ c g st' l1 e1 h2 hc => ?_
    apply rb_elim h2 hc
    clear h2 hc
    intro c₃ b st₂ c₄ h3 h4 hc
    cases h4
    obtain ⟨S, e2⟩ := snd_truthy (K := K) (n := n) h3 hc.left
    exact ⟨S.1, EvOK.not e1 e2⟩
  | USub =>
    refine EvR.bind he fun v st₁ c g st' l1 e1 h2 hc => ?_
    cases v with
    | int i => cases h2; exact ⟨rfl, EvOK.neg e1⟩
    | _ => cases h2
  | _ => exact EvR.none
theorem evBin_ok (he : SndE K rc.ev n) {sc : Scope} {l r : Expr} {op : Operator} {p : Pos} {st : St} : EvR K n sc (.BinOp l op r p) (evBin rc sc l op r st) st :=
  EvR.bind he fun v st₁ c g st' l1 e1 h2 hc => by
    apply rb_elim h2 hc
    clear h2 hc
    intro c₃ b st₂ c₄ h3 h4 hc
    obtain ⟨l2, e2⟩ := he _ _ _ _ _ _ h3 hc.left
    obtain ⟨S, e3, _⟩ := snd_bin (K := K) (n := n) h4 hc.right
    rw [l1] at e2
    exact ⟨S.1.trans l2, EvOK.two _ e1 e2 e3 fun h => wpAny_BinOp h⟩
theorem evSub_ok (OK : PrOK K P) (OO : OrOK K n O) (he : SndE K rc.ev n) {sc : Scope} {o i : Expr} {p : Pos} {st : St} : EvR K n sc (.Subscript o i p) (evSub O rc sc (.Subscript o i p) o i st) st := by
  unfold evSub
  cases hs : noSlice i with
  | false => exact EvR.orE OO
  | true =>
    refine EvR.bind he fun v st₁ c g st' l1 e1 h2 hc => ?_
    apply rb_elim h2 hc
    clear h2 hc
    intro c₃ b st₂ c₄ h3 h4 hc
    obtain ⟨l2, e2⟩ := he _ _ _ _ _ _ h3 hc.left
    obtain ⟨S, e3⟩ := snd_getItem (n := n) OK h4 hc.right
    rw [l1] at e2
    refine ⟨S.1.trans l2, ?_⟩
    intro prog w A E s h₀ env φ N m Q C I k
    refine wpAny_Sub (T := "") (id := "") hs (e1 C I fun φ' N' u h' tk I' X' hu => ?_)
    refine e2 (s := ⟨h', s.gens, s.drawn, tk, s.os⟩) C I' fun φ'' N'' v h'' tk' I'' X'' hv => ?_
    have hu' := V.stay (X''.stay I'.hr) _ _ hu
    obtain ⟨T, id, t1, t2⟩ := item_type (s := ⟨h'', s.gens, s.drawn, tk', s.os⟩) h4 hc.right C.kin I'' hu'
    refine ⟨T, id, t1, t2, ?_⟩
    exact e3 (s := ⟨h'', s.gens, s.drawn, tk', s.os⟩) (vs := [u, v]) C I'' ⟨u, [v], rfl, hu', v, [], rfl, hv, rfl⟩ fun φ3 N3 x h3' tk3 I3 X3 hx => k _ _ _ _ _ I3 ((X'.trans X'').trans X3) hx
theorem evTup_ok (he : SndE K rc.ev n) {sc : Scope} {es : List Expr} {kk : Nat} {p : Pos} {st : St} : EvR K n sc (.Tuple es kk p) (evTup rc sc es st) st := by
  unfold evTup
  cases hz : Nat.blt es.length 1000 with
  | false => exact EvR.none
  | true =>
    intro c g st' h hc
    apply rb_elim h hc
    clear h hc
    intro c₁ gs st₁ c₂ h1 h2 hc
    cases h2
    obtain ⟨l1, e1⟩ := snd_args he _ h1 hc.left
    exact ⟨l1, EvOK.tup e1 (blt_lt hz) (Nat.le_of_eq (evL_length h1))⟩
theorem evLst_ok (he : SndE K rc.ev n) {sc : Scope} {es : List Expr} {p : Pos} {st : St} : EvR K n sc (.List es p) (evLst rc sc es st) st := by
  unfold evLst
  cases hz : Nat.blt es.length 1000 with
  | false => exact EvR.none
  | true =>
    intro c g st' h hc
    apply rb_elim h hc
    clear h hc
    intro c₁ gs st₁ c₂ h1 h2 hc
    apply rb_elim h2 hc.right
    clear h2
    intro c₃ r st₂ c₄ h3 h4 hc2
    obtain ⟨q, rfl, a1, a2⟩ := alloc_inv h3 hc2.left
    cases h4
    obtain ⟨l1, e1⟩ := snd_args he _ h1 hc.left
    rw [a1, a2]
    exact ⟨l1, EvOK.lst e1 (blt_lt hz) (Nat.le_of_eq (evL_length h1)) q⟩
theorem evDict_ok (OO : OrOK K n O) (he : SndE K rc.ev n) {sc : Scope} {ks : List (Option Expr)} {vs : List Expr} {p : Pos} {st : St} : EvR K n sc (.Dict ks vs p) (evDict O rc sc (.Dict ks vs p) ks vs st) st := by
  cases ks with
  | nil => cases vs with
    | nil =>
      intro c g st' h hc
      have h : evDict0 st = _ := h
      apply rb_elim h hc
      clear h hc
      intro c₃ r st₂ c₄ h3 h4 hc
      obtain ⟨q, rfl, a1, a2⟩ := alloc_inv h3 hc.left
      cases h4
      refine ⟨a1, ?_⟩
      rw [a2]
      intro prog w A E s h₀ env φ N m Q C I k
      exact I.newDict q fun φ' N' v h' tk I' X' hv => k _ _ _ _ _ I' X' hv
    | cons => exact EvR.orE OO
  | cons k ks =>
    show EvR K n sc _ (evDict1 rc sc k ks vs st) st
    unfold evDict1
    cases hk : Nat.blt ks.length 14 with
    | false => exact EvR.none
    | true =>
      intro c g st' h hc
      apply rb_elim h hc
      clear h hc
      intro c₁ kvs st₁ c₂ h1 h2 hc
      obtain ⟨l1, e1⟩ := snd_pairs he h1 hc.left
      unfold mkDict at h2
      cases ok : dictMeth.keysOk [] kvs with
      | false => rw [ok] at h2; cases h2
      | true =>
        rw [ok] at h2
        apply rb_elim h2 hc.right
        clear h2
        intro c₃ r st₂ c₄ h3 h4 hc2
        obtain ⟨q, rfl, a1, a2⟩ := alloc_inv h3 hc2.left
        cases h4
        rw [a1, a2]
        exact ⟨l1, EvOK.dict e1 (blt_lt hk) ok q⟩
theorem snd_ev (OK : PrOK K P) (OO : OrOK K n O) (he : SndE K rc.ev n) (ht : SndT K rc.ts n) (hcl : SndC K rc.cl n) : SndE K (evS P O rc) n := by
  intro sc e st
  show EvR K n sc e (evS P O rc sc e st) st
  cases e with
  | Call => exact evCallO_ok OK OO he hcl
  | IfExp => exact evIfO_ok OO he ht
  | Constant => exact evConst_ok
  | Name => exact evName_ok OK
  | Attribute => exact evAttr_ok OK he
  | Compare => exact evCmp_ok OK he
  | BoolOp op es p => exact fun c g st' h hc => (snd_boolG he _ h hc).imp id fun e => e p
  | UnaryOp => exact evUn_ok he
  | BinOp => exact evBin_ok he
  | Subscript => exact evSub_ok OK OO he
  | Tuple => exact evTup_ok he
  | List => exact evLst_ok he
  | Dict => exact evDict_ok OO he
  | _ => exact EvR.orE OO

/-- what is to be shown of a test -/
noncomputable def TsR (K : Frag) (n : Nat) (sc : Scope) (e : Expr) (x : R Bool) (st : St) : Prop := ∀ (c : List Prop) (b : Bool) (st' : St), x = some (c, b, st') → AllP c → st'.loc = st.loc ∧ TsOK K n sc e st.loc st.ah b st'.ah
theorem tsPl_ok (he : SndE K rc.ev n) {sc : Scope} {e : Expr} {st : St}
    (pl : ∀ env, PySem.isTrue e env (eval e env) = do let v ← eval e env; standAt e.pos; holding [v] (truthy v)) : TsR K n sc e (tsPl rc sc e st) st := fun c b st' h hc => by
  apply rb_elim h hc
  clear h hc
  intro c₁ g st₁ c₂ h1 h2 hc
  obtain ⟨l1, e1⟩ := he _ _ _ _ _ _ h1 hc.left
  obtain ⟨S, e2⟩ := snd_truthy (K := K) (n := n) h2 hc.right
  refine ⟨S.1.trans l1, ?_⟩
  intro prog w A E s h₀ env φ N m Q C I k
  refine isTrue_plain (e1 C I fun φ' N' u h' tk I' X' hu => ?_) (pl env)
  refine e2 (s := ⟨h', s.gens, s.drawn, tk, s.os⟩) (vs := [u]) C I' ⟨u, [], rfl, hu, rfl⟩ fun φ'' N'' v h'' tk' I'' X'' hv => ?_
  have hv : v = b := hv
  subst hv
  exact k _ _ _ _ I'' (X'.trans X'')
theorem tsUn_ok (he : SndE K rc.ev n) (ht : SndT K rc.ts n) {sc : Scope} {op : UnaryOp} {x : Expr} {p : Pos} {st : St} : TsR K n sc (.UnaryOp op x p) (tsUn rc sc op x p st) st := by
  cases op with
  | Not =>
    intro c b st' h hc
    unfold tsUn at h
    apply rb_elim h hc
    clear h hc
    intro c₁ b st₁ c₂ h1 h2 hc
    cases h2
    obtain ⟨l1, e1⟩ := ht _ _ _ _ _ _ h1 hc.left
    refine ⟨l1, ?_⟩
    intro prog w A E s h₀ env φ N m Q C I k
    exact isTrue_not (e1 C I fun φ' N' h' tk I' X' => k _ _ _ _ I' X')
  | _ => exact tsPl_ok he fun _ => rfl
theorem snd_ts (OK : PrOK K P) (he : SndE K rc.ev n) (ht : SndT K rc.ts n) : SndT K (tsS rc) n := by
  intro sc e st
  show TsR K n sc e (tsS rc sc e st) st
  cases e with
  | UnaryOp => exact tsUn_ok he ht
  | BoolOp op es p => exact fun c g st' h hc => (snd_boolT ht _ h hc).imp id fun e => e p
  | Compare => exact fun c g st' h hc => (cmpB_ok OK he h hc).imp id And.right
  | IfExp => exact fun _ _ _ h _ => by cases h
  | _ => exact tsPl_ok he fun _ => rfl
end
end Mine
end

section
set_option maxRecDepth 100000
set_option autoImplicit false
set_option linter.unusedVariables false
set_option tactic.hygienic false
namespace Mine
open PySem PySem.W PySem.Calls PyProof.Rows

/-- the turns of a loop over items -/
inductive TnOK (K : Frag) (n : Nat) (sc : Scope) (x : Str) (body : List Stmt) (chk : AH → Prop) : List GV → Loc → AH → Fl → Loc → AH → Prop
  | nil {loc : Loc} {ah : AH} : chk ah → TnOK K n sc x body chk [] loc ah .nxt loc ah
  | nxt {g : GV} {gs : List GV} {loc loc1 loc2 : Loc} {ah ah1 ah2 : AH} {fl : Fl} : chk ah → ExOK K n sc body ((x, g) :: loc) ah .nxt loc1 ah1 → TnOK K n sc x body chk gs loc1 ah1 fl loc2 ah2 → TnOK K n sc x body chk (g :: gs) loc ah fl loc2 ah2
  | brk {g : GV} {gs : List GV} {loc loc1 : Loc} {ah ah1 : AH} : chk ah → ExOK K n sc body ((x, g) :: loc) ah .brk loc1 ah1 → TnOK K n sc x body chk (g :: gs) loc ah .nxt loc1 ah1
  | ret {g r : GV} {gs : List GV} {loc loc1 : Loc} {ah ah1 : AH} : chk ah → ExOK K n sc body ((x, g) :: loc) ah (.ret r) loc1 ah1 → TnOK K n sc x body chk (g :: gs) loc ah (.ret r) loc1 ah1
theorem TnOK.chk {K : Frag} {n : Nat} {sc : Scope} {x : Str} {body : List Stmt} {chk : AH → Prop} {gs : List GV} {loc loc' : Loc} {ah ah' : AH} {fl : Fl} (h : TnOK K n sc x body chk gs loc ah fl loc' ah') : chk ah := by
  cases h <;> assumption

/-- an iterator's steps -/
structure Iter (K : Frag) (prog : Program) (w : World) (A : Around) (I : Addr) (items : List GV) (cond : Phi → AH → Led → Prop) (IT : Nat → Heap → Prop) : Prop where
  obj : ∀ i h, IT i h → ∃ o, h.get? I = some o ∧ o.cls ≠ .type "tuple"
  at_ : ∀ i (h h' : Heap), IT i h → h'.get? I = h.get? I → IT i h'
  next : ∀ {i : Nat} {g : GV} {φ : Phi} {ah : AH} {N : Led} {h₀ : Heap} {L : Addr} {loc : Loc} {m : Str → Option Value} {s : Shared} {Q : Option Value → Shared → Prop} {E : Value → Shared → Prop},
    items[i]? = some g → Li K w.params h₀ L loc ah φ N m s.heap → K.In h₀ → cond φ ah N → IT i s.heap →
    (∀ v h' tk, V K φ N g v → IT (i + 1) h' → (∀ b o, b ≠ I → s.heap.get? b = some o → h'.get? b = some o) → Q (some v) ⟨h', s.gens, s.drawn, tk, s.os⟩) → wpAny (model prog w) A (pyNext (.ref I)) Q E s
  done : ∀ {φ : Phi} {ah : AH} {N : Led} {h₀ : Heap} {L : Addr} {loc : Loc} {m : Str → Option Value} {s : Shared} {Q : Option Value → Shared → Prop} {E : Value → Shared → Prop},
    Li K w.params h₀ L loc ah φ N m s.heap → K.In h₀ → cond φ ah N → IT items.length s.heap →
    (∀ h' tk, (∀ b o, b ≠ I → s.heap.get? b = some o → h'.get? b = some o) → Q none ⟨h', s.gens, s.drawn, tk, s.os⟩) → wpAny (model prog w) A (pyNext (.ref I)) Q E s

theorem LR.cons {K : Frag} {φ : Phi} {N : Led} {loc : Loc} {m : Str → Option Value} {x : Str} {g : GV} {v : Value} (h : LR K φ N loc m) (hv : V K φ N g v) : LR K φ N ((x, g) :: loc) (fun y => if y = x then some v else m y) := by
  intro y g' e
  rw [List.lookup_cons] at e
  cases q : y == x with
  | true =>
    rw [q] at e; cases e
    exact ⟨v, if_pos (beq_iff_eq.mp q), hv⟩
  | false =>
    rw [q] at e
    obtain ⟨u, h1, h2⟩ := h y g' e
    exact ⟨u, (if_neg (beq_eq_false_iff_ne.mp q)).trans h1, h2⟩

section
variable {prog : Program} {w : World} {A : Around} {E : Value → Shared → Prop} {s : Shared} {K : Frag} {h₀ : Heap} {L : Addr} {loc : Loc} {ah : AH} {φ : Phi} {N : Led} {m : Str → Option Value}
/-- a name stored -/
theorem Li.store (I : Li K w.params h₀ L loc ah φ N m s.heap) {A : Around} {env : Env} {sc : Scope} {n : Nat} (C : CX K A h₀ env sc n) (eL : env.locals = L) {x : Str} (hx : sc.names.lookup x = some .local) {g : GV} {v : Value} (hv : V K φ N g v) {Q : Unit → Shared → Prop}
    (k : ∀ h' tk, Li K w.params h₀ L ((x, g) :: loc) ah φ N (fun y => if y = x then some v else m y) h' → Heap.SameBut L s.heap h' → Q () ⟨h', s.gens, s.drawn, tk, s.os⟩) : wpAny (model prog w) A (storeName env x v) Q E s := by
  subst eL
  have hL := C.envE
  obtain ⟨cn, aa, cd, henv⟩ := hL
  have hk : env.kindOf x = some .local := by rw [henv]; exact hx
  refine wpAny_storeName_local hk I.fr.ns (fun h' hn hs => ?_) (by
    rw [henv]
    show (sc.kind == .class || (sc.kind == .module && _)) = false
    rw [C.kind]; rfl)
  exact k h' _ ⟨I.fr.set hn hs, I.nw.set hs, I.hr, I.lc.cons hv⟩ hs
end
end Mine
end

section
set_option maxRecDepth 100000
set_option autoImplicit false
set_option linter.unusedVariables false
set_option tactic.hygienic false
namespace Mine
open PySem PySem.W PySem.Calls PyProof.Rows

section
variable {prog : Program} {w : World} {A : Around} {s : Shared} {K : Frag} {h₀ : Heap} {env : Env} {sc : Scope} {n : Nat}

/-- what stands at a loop's turn -/
inductive LInv (K : Frag) (w : World) (h₀ : Heap) (env : Env) (sc : Scope) (n : Nat) (x : Str) (body : List Stmt) (chk : AH → Prop) (I : Addr) (items : List GV) (cond : Phi → AH → Led → Prop) (IT : Nat → Heap → Prop)
    (φ0 : Phi) (ah0 : AH) (N0 : Led) (fl : Fl) (loc' : Loc) (ah' : AH) (s : Shared) (k : Nat) (s' : Shared) : Prop
  | mk (i : Nat) (loc : Loc) (ah : AH) (φ : Phi) (N : Led) (m : Str → Option Value) (h : Heap) (tk : Nat) (o : Obj) (e : s' = ⟨h, s.gens, s.drawn, tk, s.os⟩) (hi : i ≤ items.length) (hk : k = items.length - i + 1) (hit : IT i h) (I0 : Li K w.params h₀ env.locals loc ah φ N m h) (X : Ext φ0 ah0 N0 φ ah N) (hc : cond φ ah N) (hm : (I, o) ∈ N) (hf : I ∉ foot φ ah)
    (ho : o.cls ≠ .type "tuple") (T : TnOK K n sc x body chk (items.drop i) loc ah fl loc' ah') : LInv K w h₀ env sc n x body chk I items cond IT φ0 ah0 N0 fl loc' ah' s k s'
theorem turn_down {a i : Nat} (lt : i < a) : a - (i + 1) + 1 < a - i + 1 := by omega
theorem drop_item {α : Type} {l : List α} {i : Nat} (lt : i < l.length) : ∃ g, l[i]? = some g ∧ l.drop i = g :: l.drop (i + 1) :=
  ⟨l[i], List.getElem?_eq_getElem lt, List.drop_eq_getElem_cons lt⟩

theorem loop_go (C : CX K A h₀ env sc n) {x : Str} {px : Pos} {body : List Stmt} {chk : AH → Prop} {I : Addr} {items : List GV} {cond : Phi → AH → Led → Prop} {IT : Nat → Heap → Prop} {φ0 : Phi} {ah0 : AH} {N0 : Led} {fl : Fl} {loc' : Loc} {ah' : AH} {R : Result → Shared → Prop}
    (hx : sc.names.lookup x = some .local) (W : Iter K prog w A I items cond IT) (hI : I ∉ N0.map (·.1)) (hcond : ∀ φ φ' ah ah' N N', Stay φ N φ' N' → cond φ ah N → chk ah' → cond φ' ah' N') (hL : I ≠ env.locals)
    {k : Nat} (h : LInv K w h₀ env sc n x body chk I items cond IT φ0 ah0 N0 fl loc' ah' s k s)
    (hR : ∀ φ' N' m' f h' tk, Li K w.params h₀ env.locals loc' ah' φ' N' m' h' → Ext φ0 ah0 N0 φ' ah' N' → FlV K φ' N' fl f → R (.ok f) ⟨h', s.gens, s.drawn, tk, s.os⟩) :
    codeAny (model prog w) A (.forLoop (.Name x px) (.ref I) body [] env) R s := by
  refine codeAny_forLoop (fun k s' => LInv K w h₀ env sc n x body chk I items cond IT φ0 ah0 N0 fl loc' ah' s k s') ?_ k h
  rintro k s' ⟨i, loc, ah, φ, N, m, h, tk, o, rfl, hi, rfl, hit, I0, X0, hc, hm, hf, ho, T⟩
  rcases Nat.lt_or_ge i items.length with lt | ge
  · obtain ⟨g, hg, hd⟩ := drop_item lt
    rw [hd] at T
    clear hd
    refine W.next (s := ⟨h, s.gens, s.drawn, tk, s.os⟩) hg I0 C.kin hc hit fun v h1 tk1 hv hit1 hk => ?_
    obtain ⟨o1, ho1, hc1⟩ := W.obj _ _ hit1
    obtain ⟨I1, hm1⟩ := I0.turn (h' := h1) hm hf ho ho1 hk
    have X1 := X0.turn (o' := o1) hI
    have S1 : Stay φ N φ (upd I o1 N) := ⟨PLe.refl _, fun a vs hb => upd_ne hb fun q => by
      have q : a = I := q
      subst q
      have := eq_of_nodup I0.hr.nd hb hm
      rw [← this] at ho
      exact ho rfl⟩
    refine wpAny_assign_Name (Li.store (s := ⟨h1, s.gens, s.drawn, tk1, s.os⟩) I1 C rfl hx (V.stay S1 _ _ hv) fun h2 tk2 I2 sb => ?_)
    have hit2 : IT (i + 1) h2 := W.at_ _ h1 h2 hit1 (sb.2 I hL)
    have after : ∀ {fl1 : Fl} {loc1 : Loc} {ah1 : AH}, ExOK K n sc body ((x, g) :: loc) ah fl1 loc1 ah1 →
        ∀ {Q : Flow → Shared → Prop} {E : Value → Shared → Prop}, (∀ φ' N' m' f h' tk o', Li K w.params h₀ env.locals loc1 ah1 φ' N' m' h' → Ext φ0 ah0 N0 φ' ah1 N' → Stay φ N φ' N' → FlV K φ' N' fl1 f → (I, o1) ∈ N' → I ∉ foot φ' ah1 → IT (i + 1) h' → o' = o1 → Q f ⟨h', s.gens, s.drawn, tk, s.os⟩) →
        wpAny (model prog w) A (execs body env) Q E ⟨h2, s.gens, s.drawn, tk2, s.os⟩ := by
      intro fl1 loc1 ah1 B Q E kk
      refine B (s := ⟨h2, s.gens, s.drawn, tk2, s.os⟩) C I2 fun φ' N' m' f h' tk' I' X' hfl => ?_
      have hm' := X'.keep _ hm1 hf
      refine kk φ' N' m' f h' tk' o1 I' (X1.trans X') ⟨X'.pre, fun a vs hb => (X'.stay I2.hr).tup a vs (S1.tup a vs hb)⟩ hfl hm' (fun q => ?_) ?_ rfl
      · rcases X'.new _ q with q | q
        · exact hf q
        · exact q (List.mem_map.mpr ⟨_, hm1, rfl⟩)
      · refine W.at_ _ h2 h' hit2 ?_
        rw [(I'.nw _ hm').1, (I2.nw _ hm1).1]
    cases T with
    | nxt ck B T' =>
      refine after B fun φ' N' m' f h' tk' o' I' X' ple hfl hm' hf' hit' _ => ?_
      have hfl : f = .next := hfl
      subst hfl
      exact ⟨items.length - (i + 1) + 1, turn_down lt, i + 1, _, _, φ', N', m', h', tk', o1, rfl, lt, rfl, hit', I', X', hcond _ _ _ _ _ _ ple hc T'.chk, hm', hf', hc1, T'⟩
    | brk ck B =>
      refine after B fun φ' N' m' f h' tk' o' I' X' ple hfl hm' hf' hit' _ => ?_
      have hfl : f = .brk := hfl
      subst hfl
      exact hR _ _ _ _ _ _ (I'.drop hm' hf' hc1 fun _ _ _ e => e) (X'.drop hI) rfl
    | ret ck B =>
      refine after B fun φ' N' m' f h' tk' o' I' X' ple hfl hm' hf' hit' _ => ?_
      obtain ⟨v, rfl, hv⟩ := hfl
      have I3 := I'.drop hm' hf' hc1 fun _ _ _ e => e
      refine hR _ _ _ _ _ _ I3 (X'.drop hI) ⟨v, rfl, V.stay ⟨PLe.refl _, fun a vs hb => List.mem_filter.mpr ⟨hb, ?_⟩⟩ _ _ hv⟩
      have : a ≠ I := fun q => by
        subst q
        have := eq_of_nodup I'.hr.nd hb hm'
        rw [← this] at hc1
        exact hc1 rfl
      simpa using this
  · have e : i = items.length := Nat.le_antisymm hi ge
    subst e
    rw [List.drop_length] at T
    refine W.done (s := ⟨h, s.gens, s.drawn, tk, s.os⟩) I0 C.kin hc hit fun h1 tk1 hk => wpAny_execs_nil ?_
    cases T with
    | nil ck => exact hR _ _ _ _ _ _ (I0.drop hm hf ho hk) (X0.drop hI) rfl
end
end Mine
end

section
set_option maxRecDepth 100000
set_option autoImplicit false
set_option linter.unusedVariables false
set_option tactic.hygienic false
namespace Mine
open PySem PySem.W PySem.Calls PyProof.Rows

section
variable {prog : Program} {w : World} {A : Around} {K : Frag}

theorem Iter.list (hh : A.handled = none) {I ax : Addr} {r : Rf} {xs : List GV} : Iter K prog w A I xs (fun φ ah _ => ah.get r = some (.list xs) ∧ ∃ d, φ.get r = some (ax, d)) (fun i h => h.IsListIter I ax i) where
  obj i h x := by obtain ⟨o, ho, hc, _⟩ := x; exact ⟨o, ho, by rw [hc]; exact fun q => absurd (Value.type.inj q) (by decide)⟩
  at_ i h h' x e := by obtain ⟨o, ho, y⟩ := x; exact ⟨o, e.trans ho, y⟩
  next {i g φ ah N h₀ L loc m s Q E} hg I' X₀ hc hit hQ := by
    obtain ⟨c1, d, c2⟩ := hc
    obtain ⟨p, vs, k, hp, hv, hm, hx, l⟩ := I'.list c1 (v := .ref ax) ⟨_, c2, rfl⟩
    cases hv
    obtain ⟨v, hv, hV⟩ := hx.get hg
    exact wpAny_pyNext_list_item hit l (by simpa using hv) fun h' hit' sb => hQ v h' s.toks hV hit' fun b o hb e => (sb.2 b hb).trans e
  done {φ ah N h₀ L loc m s Q E} I' X₀ hc hit hQ := by
    obtain ⟨c1, d, c2⟩ := hc
    obtain ⟨p, vs, k, hp, hv, hm, hx, l⟩ := I'.list c1 (v := .ref ax) ⟨_, c2, rfl⟩
    cases hv
    exact wpAny_pyNext_list_end hh hit l (by simp [hx.length]) fun h' he => hQ h' s.toks fun b o hb e => he b o hb e

/-- an iterator of the library's, its items' values known -/
theorem Iter.walks {I : Addr} {items : List GV} {T : String} {Pv : Nat → Value → Prop} {St : Nat → Heap → Prop} (W : Walks prog w A I [I] [I] items.length Pv St) (ho : ∀ i h, St i h → ∃ o, h.get? I = some o ∧ o.cls = .type T) (hT : T ≠ "tuple")
    (hP : ∀ i v g, Pv i v → items[i]? = some g → ∀ φ N, V K φ N g v) : Iter K prog w A I items (fun _ _ _ => True) St where
  obj i h x := by obtain ⟨o, ho, hc⟩ := ho i h x; exact ⟨o, ho, by rw [hc]; exact fun q => hT (Value.type.inj q)⟩
  at_ i h h' x e := W.frame i h h' x fun b hb o hbo => by rw [List.mem_singleton.mp hb] at hbo ⊢; exact e.trans hbo
  next {i g φ ah N h₀ L loc m s Q E} hg I' X₀ hc hit hQ := by
    have lt : i < items.length := by
      rcases Nat.lt_or_ge i items.length with q | q
      · exact q
      · rw [List.getElem?_eq_none q] at hg; cases hg
    exact W.item i s Q E lt hit fun v h' tk hp st hk => hQ v h' tk (hP i v g hp hg φ N) st fun b o hb e => hk b o (by simpa using hb) e
  done {φ ah N h₀ L loc m s Q E} I' X₀ hc hit hQ := W.done s Q E hit fun h' tk hk => hQ h' tk fun b o hb e => hk b o (by simpa using hb) e

theorem intsG_length : ∀ (k : Nat) (a : Int), (intsG a k).length = k
  | 0, _ => rfl
  | k + 1, a => by unfold intsG; rw [List.length_cons, intsG_length k]
theorem intsG_get : ∀ (k i : Nat) (a : Int) (g : GV), (intsG a k)[i]? = some g → g = .int (a + i)
  | 0, i, a, g, h => by simp [intsG] at h
  | k + 1, i, a, g, h => by
    unfold intsG at h
    cases i with
    | zero => simp at h; rw [← h]; simp
    | succ i =>
      rw [List.getElem?_cons_succ] at h
      rw [intsG_get k i _ g h]
      congr 1
      push_cast
      omega
theorem chars_length : ∀ l : List Nat, (chars l).length = l.length
  | [] => rfl
  | c :: r => by unfold chars; rw [List.length_cons, List.length_cons, chars_length r]
theorem chars_get : ∀ (l : List Nat) (i : Nat) (g : GV), (chars l)[i]? = some g → ∃ c, l[i]? = some c ∧ g = .str ⟨#[c]⟩
  | [], i, g, h => by simp [chars] at h
  | c :: r, i, g, h => by
    unfold chars at h
    cases i with
    | zero => simp at h; exact ⟨c, rfl, h.symm⟩
    | succ i => simpa using chars_get r i g (by simpa using h)

theorem Iter.range (hh : A.handled = none) (I : Addr) (k : Nat) : Iter K prog w A I (intsG 0 k) (fun _ _ _ => True) (fun i h => IsRangeIter h I (0 + (i : Nat) * 1) ((k : Int) - (i : Nat)) 1) := by
  refine Iter.walks (T := "range_iterator") (by rw [intsG_length]; exact Walks.range hh I 0 1 k) (fun i h st => ⟨_, st, rfl⟩) (by decide) fun i v g hp hg φ N => ?_
  obtain ⟨t, rfl⟩ := hp
  rw [intsG_get _ _ _ _ hg]
  exact ⟨t, by rw [Int.mul_one]⟩
theorem Iter.strA (hh : A.handled = none) (I : Addr) (x : Str) (t : Tok) : Iter K prog w A I (chars x.cps.toList) (fun _ _ _ => True) (fun i h => h.IsStrIter I "str_ascii_iterator" x t i) := by
  refine Iter.walks (T := "str_ascii_iterator") (by rw [chars_length, Array.length_toList]; exact Walks.strAscii hh I x t) (fun i h st => by obtain ⟨o, a, b, _⟩ := st; exact ⟨o, a, b⟩) (by decide) fun i v g hp hg φ N => ?_
  obtain ⟨c, u, hc, rfl⟩ := hp
  obtain ⟨c', hc', rfl⟩ := chars_get _ _ _ hg
  rw [Array.getElem?_toList, hc] at hc'
  cases hc'
  exact ⟨u, rfl⟩
theorem Iter.strW (hh : A.handled = none) (I : Addr) (x : Str) (t : Tok) : Iter K prog w A I (chars x.cps.toList) (fun _ _ _ => True) (fun i h => h.IsStrIter I "str_iterator" x t i) := by
  refine Iter.walks (T := "str_iterator") (by rw [chars_length, Array.length_toList]; exact Walks.strWide hh I x t) (fun i h st => by obtain ⟨o, a, b, _⟩ := st; exact ⟨o, a, b⟩) (by decide) fun i v g hp hg φ N => ?_
  obtain ⟨c, u, hc, rfl⟩ := hp
  obtain ⟨c', hc', rfl⟩ := chars_get _ _ _ hg
  rw [Array.getElem?_toList, hc] at hc'
  cases hc'
  exact ⟨u, rfl⟩
end

section
variable {K : Frag} {P : Pr} {n : Nat} {prog : Program} {w : World} {A : Around} {E : Value → Shared → Prop} {s : Shared} {h₀ : Heap} {env : Env} {sc : Scope} {loc : Loc} {ah : AH} {φ : Phi} {N : Led} {m : Str → Option Value}

noncomputable abbrev itObj (T : String) (vs : Array Value) : Obj := { cls := .type T, data := .fields vs }
/-- a loop over an iterator that has just been made -/
theorem loop_new (C : CX K A h₀ env sc n) (I0 : Li K w.params h₀ env.locals loc ah φ N m s.heap) {x : Str} {px : Pos} {body : List Stmt} {chk : AH → Prop} {items : List GV} {cond : Phi → AH → Led → Prop} {IT : Nat → Heap → Prop} {fl : Fl} {loc' : Loc} {ah' : AH} {Q : Flow → Shared → Prop} {T : String} {vs : Array Value}
    (hx : sc.names.lookup x = some .local) (W : Iter K prog w A s.heap.objs.size items cond IT) (hcond : ∀ φ φ' ah ah' N N', Stay φ N φ' N' → cond φ ah N → chk ah' → cond φ' ah' N')
    (Tn : TnOK K n sc x body chk items loc ah fl loc' ah') (hc : cond φ ah N) (hit : IT 0 (s.heap.push (itObj T vs))) (hT : T ≠ "tuple")
    (k : ∀ φ' N' m' f h' tk, Li K w.params h₀ env.locals loc' ah' φ' N' m' h' → Ext φ ah N φ' ah' N' → FlV K φ' N' fl f → Q f ⟨h', s.gens, s.drawn, tk, s.os⟩) :
    codeAny (model prog w) A (.forLoop (.Name x px) (.ref s.heap.objs.size) body [] env) (fun r s' => match r with | .ok f => Q f s' | .error e => cameBackBy (model prog w) A env E e s') { s with heap := s.heap.push (itObj T vs) } := by
  obtain ⟨I1, X1, S1⟩ := I0.more (I0.fr.push (itObj T vs)) (News.push I0.fr I0.nw (itObj T vs)) I0.fresh
  have hf : s.heap.objs.size ∉ foot φ ah := fun q => I0.fresh (I0.hr.foot_in q)
  refine loop_go (s := { s with heap := s.heap.push (itObj T vs) }) (k := items.length - 0 + 1) C hx W I0.fresh hcond (fun q => ?_)
    ⟨0, loc, ah, φ, _, m, _, s.toks, itObj T vs, rfl, Nat.zero_le _, rfl, hit, I1, X1, hcond _ _ _ _ _ _ S1 hc Tn.chk, .head _, hf, fun q => hT (Value.type.inj q), by rw [List.drop_zero]; exact Tn⟩ fun φ' N' m' f h' tk I' X' hfl => k _ _ _ _ _ _ I' X' hfl
  have := I0.fr.ns.lt
  rw [← q] at this
  exact Nat.lt_irrefl _ this

theorem folded_plain {i : Expr} {env : Env} (h : forG.isSet i = false) (x : Value) : foldedSetIterable i env x = pure x := by
  cases i <;> first | rfl | cases h
theorem CX.kindL (C : CX K A h₀ env sc n) {x : Str} (hx : sc.names.lookup x = some .local) : env.kindOf x = some .local := by
  obtain ⟨cn, aa, cd, henv⟩ := C.envE
  rw [henv]; exact hx

/-- a for over what an expression gives -/
theorem for_list {x : Str} {px pos : Pos} {i : Expr} {body : List Stmt} {ah1 : AH} {r : Rf} {xs : List GV} {fl : Fl} {loc' : Loc} {ah' : AH} (hx : sc.names.lookup x = some .local) (hs : forG.isSet i = false) (h1 : EvOK K n sc i loc ah (.obj r) ah1) (h2 : ah1.get r = some (.list xs))
    (Tn : TnOK K n sc x body (fun ah => ah.get r = some (.list xs)) xs loc ah1 fl loc' ah') : StOK K n sc (.For (.Name x px) i body [] pos) loc ah fl loc' ah' := by
  intro prog w A E s h₀ env φ N m Q C I k
  refine wpAny_For (h1 C I fun φ' N' u h' tk I' X' hu => ?_) (folded_plain hs)
  obtain ⟨p, vs, c, hp, rfl, hm, hx', l⟩ := Li.list (s := ⟨h', s.gens, s.drawn, tk, s.os⟩) I' h2 hu
  refine wpAny_pyIter_list (s := ⟨h', s.gens, s.drawn, tk, s.os⟩) l ?_
  exact loop_new (s := ⟨h', s.gens, s.drawn, tk, s.os⟩) (T := "list_iterator") C I' hx (Iter.list C.hand (r := r)) (fun φ φ' ah ah' N N' S hc ck => ⟨ck, hc.2.imp fun d hd => S.pre.get hd⟩) Tn ⟨h2, _, hp⟩
    ⟨_, Heap.get?_push_size _ rfl, rfl, rfl⟩ (by decide) fun φ'' N'' m'' f h'' tk' I'' X'' hfl => k _ _ _ _ _ _ I'' (X'.trans X'') hfl
theorem for_str {x : Str} {px pos : Pos} {i : Expr} {body : List Stmt} {ah1 : AH} {z : Str} {fl : Fl} {loc' : Loc} {ah' : AH} (hx : sc.names.lookup x = some .local) (hs : forG.isSet i = false) (h1 : EvOK K n sc i loc ah (.str z) ah1)
    (Tn : TnOK K n sc x body (fun _ => True) (chars z.cps.toList) loc ah1 fl loc' ah') : StOK K n sc (.For (.Name x px) i body [] pos) loc ah fl loc' ah' := by
  intro prog w A E s h₀ env φ N m Q C I k
  refine wpAny_For (h1 C I fun φ' N' u h' tk I' X' hu => ?_) (folded_plain hs)
  obtain ⟨t, rfl⟩ := V.str_inv hu
  cases ha : z.cps.all (· < 128) with
  | true =>
    refine wpAny_pyIter_ascii (s := ⟨h', s.gens, s.drawn, tk, s.os⟩) ha ?_
    exact loop_new (s := ⟨h', s.gens, s.drawn, tk, s.os⟩) (T := "str_ascii_iterator") C I' hx (Iter.strA C.hand _ z t) (fun _ _ _ _ _ _ _ h _ => h) Tn trivial
      ⟨_, Heap.get?_push_size _ rfl, rfl, rfl⟩ (by decide) fun φ'' N'' m'' f h'' tk' I'' X'' hfl => k _ _ _ _ _ _ I'' (X'.trans X'') hfl
  | false =>
    refine wpAny_pyIter_wide (s := ⟨h', s.gens, s.drawn, tk, s.os⟩) ha ?_
    exact loop_new (s := ⟨h', s.gens, s.drawn, tk, s.os⟩) (T := "str_iterator") C I' hx (Iter.strW C.hand _ z t) (fun _ _ _ _ _ _ _ h _ => h) Tn trivial
      ⟨_, Heap.get?_push_size _ rfl, rfl, rfl⟩ (by decide) fun φ'' N'' m'' f h'' tk' I'' X'' hfl => k _ _ _ _ _ _ I'' (X'.trans X'') hfl
theorem for_tup {x : Str} {px pos : Pos} {i : Expr} {body : List Stmt} {ah1 : AH} {xs : List GV} {fl : Fl} {loc' : Loc} {ah' : AH} (hx : sc.names.lookup x = some .local) (hs : forG.isSet i = false) (h1 : EvOK K n sc i loc ah (.tup xs) ah1)
    (Tn : TnOK K n sc x body (fun _ => True) xs loc ah1 fl loc' ah') : StOK K n sc (.For (.Name x px) i body [] pos) loc ah fl loc' ah' := by
  intro prog w A E s h₀ env φ N m Q C I k
  refine wpAny_For (h1 C I fun φ' N' u h' tk I' X' hu => ?_) (folded_plain hs)
  obtain ⟨a, vs, rfl, hm, hx'⟩ := hu
  have tup : ∀ {φ : Phi} {N : Led} {h₀ : Heap} {L : Addr} {loc : Loc} {ah : AH} {m : Str → Option Value} {h : Heap}, Li K w.params h₀ L loc ah φ N m h → K.In h₀ → (a, tupOf vs) ∈ N ∨ KTup K a vs → h.IsTuple a vs.toArray := by
    intro φ N h₀ L loc ah m h I X₀ hm
    rcases hm with hm | ⟨dd, sl, q, hm⟩
    · exact ⟨_, (I.nw _ hm).1, rfl, 0, rfl⟩
    · exact ⟨_, (X₀.keeps I.fr.keep) _ _ hm, rfl, q, rfl⟩
  have W : Iter K prog w A h'.objs.size xs (fun φ _ N => ((a, tupOf vs) ∈ N ∨ KTup K a vs) ∧ Vs K φ N xs vs) (fun i h => h.IsTupleIter h'.objs.size a i) := by
    refine ⟨fun i h x => ?_, fun i h h' x e => ?_, fun {i g φ ah N h₀ L loc m s Q E} hg I' X₀ hc hit hQ => ?_, fun {φ ah N h₀ L loc m s Q E} I' X₀ hc hit hQ => ?_⟩
    · obtain ⟨o, ho, hc, _⟩ := x; exact ⟨o, ho, by rw [hc]; exact fun q => absurd (Value.type.inj q) (by decide)⟩
    · obtain ⟨o, ho, y⟩ := x; exact ⟨o, e.trans ho, y⟩
    · obtain ⟨v, hv, hV⟩ := hc.2.get hg
      exact wpAny_pyNext_tuple_item hit (tup I' X₀ hc.1) (by simpa using hv) fun h' hit' sb => hQ v h' s.toks hV hit' fun b o hb e => (sb.2 b hb).trans e
    · exact wpAny_pyNext_tuple_end C.hand hit (tup I' X₀ hc.1) (by simp [hc.2.length]) fun h' he => hQ h' s.toks fun b o hb e => he b o hb e
  refine wpAny_pyIter_tuple (s := ⟨h', s.gens, s.drawn, tk, s.os⟩) (tup I' C.kin hm) ?_
  exact loop_new (s := ⟨h', s.gens, s.drawn, tk, s.os⟩) (T := "tuple_iterator") C I' hx W (fun φ φ' ah ah' N N' S hc _ => ⟨hc.1.imp (S.tup _ _) id, Vs.stay S _ _ hc.2⟩) Tn ⟨hm, hx'⟩
    ⟨_, Heap.get?_push_size _ rfl, rfl, rfl⟩ (by decide) fun φ'' N'' m'' f h'' tk' I'' X'' hfl => k _ _ _ _ _ _ I'' (X'.trans X'') hfl
theorem for_range {x : Str} {px pos fp cp : Pos} {e : Expr} {body : List Stmt} {ah1 : AH} {c : Nat} {fl : Fl} {loc' : Loc} {ah' : AH} (OK : PrOK K P) (hx : sc.names.lookup x = some .local) (hf : sc.names.lookup ("range" : Str) = some .globalImplicit) (hg : P.glob.lookup ("range" : Str) = some (.ty "range"))
    (hst : ∀ y p, e ≠ .Starred y p) (h1 : EvOK K n sc e loc ah (.int c) ah1) (hc : c < 1000000)
    (Tn : TnOK K n sc x body (fun _ => True) (intsG 0 c) loc ah1 fl loc' ah') : StOK K n sc (.For (.Name x px) (.Call (.Name "range" fp) [e] [] cp) body [] pos) loc ah fl loc' ah' := by
  intro prog w A E s h₀ env φ N m Q C I k
  refine wpAny_For (wpAny_CallF (fun _ _ _ q => by cases q) ?_) (fun _ => rfl)
  have hn : nameG P sc ("range" : Str) ⟨loc, ah, []⟩ = some ([], .ty "range", ⟨loc, ah, []⟩) := by unfold nameG; rw [hf]; dsimp only; rw [hg]; rfl
  refine (snd_name OK C hn I fun v hv => ?_).2
  have hv : v = .type "range" := hv
  subst hv
  have ar : ArOK K n sc [e] loc ah [.int c] ah1 := by
    refine ⟨fun q => (nomatch q), fun {pos prog w A E s h₀ env φ N m Q} C I k => ?_⟩
    refine args_cons ?_ (starEach_cons hst)
    refine h1 C I fun φ' N' v h' tk I' X' hv => args_nil ?_
    exact k _ _ [v] _ _ I' X' ⟨v, [], rfl, hv, rfl⟩
  refine ar.callWith (fun e' he' => by rw [List.mem_singleton.mp he']; exact hst) C I (keeps_M0 fun a q => by cases q) fun φ' N' vs h' tk I' X' hvs => ?_
  obtain ⟨u, rfl, hu⟩ := Vs.one_inv hvs
  obtain ⟨t, rfl⟩ := V.int_inv hu
  refine call_range_1 (s := ⟨h', s.gens, s.drawn, tk, s.os⟩) ?_
  obtain ⟨I1, X1, S1⟩ := Li.more (s := ⟨h', s.gens, s.drawn, tk, s.os⟩) I' (I'.fr.push _) (News.push I'.fr I'.nw { cls := .type "range", data := .fields #[.int 0 tk, .int c t, .int 1 (tk + 1)] }) (Li.fresh (s := ⟨h', s.gens, s.drawn, tk, s.os⟩) I')
  refine wpAny_pyIter_range (IsRange.new _ _ _ _ _ _ _) (small_one (by decide) (by decide) (by omega) (by omega)) ?_
  rw [rangeSize_one]
  have hz : (if (0 : Int) < (c : Int) then (c : Int) - 0 else 0) = (c : Int) := by split <;> omega
  rw [hz]
  refine loop_new (s := ⟨_, s.gens, s.drawn, _, s.os⟩) (T := "range_iterator") C I1 hx (Iter.range C.hand _ c) (fun _ _ _ _ _ _ _ h _ => h) Tn trivial ?_ (by decide) fun φ'' N'' m'' f h'' tk' I'' X'' hfl => k _ _ _ _ _ _ I'' (X'.trans (X1.trans X'')) hfl
  show IsRangeIter _ _ (0 + ((0 : Nat) : Int) * 1) ((c : Int) - ((0 : Nat) : Int)) 1
  have e : ∀ (h : Heap) (vs : Array Value), (h.push (itObj "range_iterator" vs)).get? h.objs.size = some (itObj "range_iterator" vs) := fun h vs => Heap.get?_push_size _ rfl
  have e1 : (0 : Int) + ((0 : Nat) : Int) * 1 = 0 := by decide
  have e2 : (c : Int) - ((0 : Nat) : Int) = c := by simp
  rw [e1, e2]
  exact e _ _
end
end Mine
end

section
set_option maxRecDepth 100000
set_option autoImplicit false
set_option linter.unusedVariables false
set_option tactic.hygienic false
namespace Mine
open PySem PySem.W PySem.Calls PyProof.Rows

/-- a store into a target -/
noncomputable def AsOK (K : Frag) (n : Nat) (sc : Scope) (t : Expr) (g : GV) (loc : Loc) (ah : AH) (loc' : Loc) (ah' : AH) : Prop :=
  ∀ {prog : Program} {w : World} {A : Around} {E : Value → Shared → Prop} {s : Shared} {h₀ : Heap} {env : Env} {φ : Phi} {N : Led} {m : Str → Option Value} {v : Value} {Q : Unit → Shared → Prop},
    CX K A h₀ env sc n → Li K w.params h₀ env.locals loc ah φ N m s.heap → V K φ N g v →
    (∀ φ' N' m' h' tk, Li K w.params h₀ env.locals loc' ah' φ' N' m' h' → Ext φ ah N φ' ah' N' → Q () ⟨h', s.gens, s.drawn, tk, s.os⟩) →
    wpAny (model prog w) A (assign t env v) Q E s

section
variable {K : Frag} {P : Pr} {O : Orc} {n : Nat} {rc : Rc}

theorem locName_inv {sc : Scope} {e : Expr} {x : Str} (h : locName sc e = some x) : (∃ p, e = .Name x p) ∧ sc.names.lookup x = some .local := by
  cases e with
  | Name y p =>
    unfold locName at h
    dsimp only at h
    cases q : isLoc sc y with
    | false => rw [q] at h; exact none_ne h
    | true => rw [q] at h; cases h; exact ⟨⟨p, rfl⟩, isLoc_inv q⟩
  | _ => exact none_ne h
/-- names that take values in a row -/
inductive Nms (sc : Scope) : List Expr → List GV → Loc → Loc → Prop
  | nil {loc : Loc} : Nms sc [] [] loc loc
  | cons {x : Str} {p : Pos} {es : List Expr} {g : GV} {gs : List GV} {loc loc' : Loc} : sc.names.lookup x = some .local → Nms sc es gs ((x, g) :: loc) loc' → Nms sc (.Name x p :: es) (g :: gs) loc loc'
theorem names_inv {sc : Scope} : ∀ {es : List Expr} {gs : List GV} {st st' : St} {c : List Prop} {u : Unit}, storeNames sc es gs st = some (c, u, st') → st'.ah = st.ah ∧ Nms sc es gs st.loc st'.loc
  | [], [], _, _, _, _, h => by cases h; exact ⟨rfl, .nil⟩
  | [], _ :: _, _, _, _, _, h => none_ne h
  | _ :: _, [], _, _, _, _, h => none_ne h
  | e :: es, g :: gs, st, st', c, u, h => by
    unfold storeNames at h
    cases q : locName sc e with
    | none => rw [q] at h; exact none_ne h
    | some x =>
      rw [q] at h
      obtain ⟨⟨p, rfl⟩, hx⟩ := locName_inv q
      obtain ⟨a, b⟩ := names_inv h
      exact ⟨a, .cons hx b⟩
theorem Nms.each {sc : Scope} {env : Env} {es : List Expr} {gs : List GV} {loc loc' : Loc} (h : Nms sc es gs loc loc') : (assignEach es env).length = gs.length ∧ (assignEach es env).findIdx? (·.1) = none := by
  induction h with
  | nil => exact ⟨rfl, rfl⟩
  | @cons x p es g gs _ _ _ _ ih =>
    obtain ⟨a, b⟩ := ih
    refine ⟨congrArg (· + 1) a, ?_⟩
    show ((false, assign (.Name x p) env) :: assignEach es env).findIdx? (·.1) = none
    rw [List.findIdx?_cons, b]; rfl
theorem Nms.run {sc : Scope} {es : List Expr} {gs : List GV} {loc loc' : Loc} (h : Nms sc es gs loc loc') {prog : Program} {w : World} {A : Around} {E : Value → Shared → Prop} {s : Shared} {h₀ : Heap} {env : Env} {ah : AH} {φ : Phi} {N : Led} {Q : Unit → Shared → Prop}
    (C : CX K A h₀ env sc n) : ∀ {m : Str → Option Value} {vs : List Value} {h1 : Heap} {tk : Nat}, Li K w.params h₀ env.locals loc ah φ N m h1 → Vs K φ N gs vs →
    (∀ m' h' tk, Li K w.params h₀ env.locals loc' ah φ N m' h' → Q () ⟨h', s.gens, s.drawn, tk, s.os⟩) →
    wpAny (model prog w) A (assignInOrder ((assignEach es env).map (·.2)) vs) Q E ⟨h1, s.gens, s.drawn, tk, s.os⟩ := by
  induction h with
  | nil => exact fun I hv k => assignInOrder_nil (k _ _ _ I)
  | cons hx _ ih =>
    intro m vs h1 tk I hv k
    obtain ⟨v, vs, rfl, h1, h2⟩ := hv
    exact assignInOrder_cons (wpAny_assign_Name (Li.store (s := ⟨_, s.gens, s.drawn, tk, s.os⟩) I C rfl hx h1 fun h' tk I' _ => ih I' h2 k))
/-- what is to be shown of a store -/
noncomputable def AsR (K : Frag) (n : Nat) (sc : Scope) (t : Expr) (g : GV) (x : R Unit) (st : St) : Prop := ∀ (c : List Prop) (u : Unit) (st' : St), x = some (c, u, st') → AllP c → AsOK K n sc t g st.loc st.ah st'.loc st'.ah
theorem AsR.none {sc : Scope} {t : Expr} {g : GV} {st : St} : AsR K n sc t g none st := fun _ _ _ h _ => none_ne h
theorem stN_ok {sc : Scope} {x : Str} {p : Pos} {g : GV} {st : St} : AsR K n sc (.Name x p) g (stN sc x g st) st := by
  unfold stN
  cases hx : isLoc sc x with
  | false => exact AsR.none
  | true =>
    intro c u st' h hc
    cases h
    exact fun C I hv k => wpAny_assign_Name (I.store C rfl (isLoc_inv hx) hv fun h' tk I' _ => k _ _ _ _ _ I' (Ext.refl ..))
theorem stA_ok (OK : PrOK K P) (he : SndE K rc.ev n) {sc : Scope} {o : Expr} {x : Str} {p : Pos} {g : GV} {st : St} : AsR K n sc (.Attribute o x p) g (rb (rc.ev sc o st) fun v st => setAttrG P v x g st) st := fun c u st' h hc => by
  apply rb_elim h hc
  clear h hc
  intro c₁ ov st₁ c₂ h1 h2 hc
  obtain ⟨l1, e1⟩ := he _ _ _ _ _ _ h1 hc.left
  obtain ⟨l2, e2⟩ := snd_setAttr (n := n) OK h2 hc.right
  rw [l2, l1]
  clear h1 h2 hc l1 l2
  intro prog w A E s h₀ env φ N m v Q C I hv k
  show wpAny _ _ (do let ov ← holding [v] (eval o env); standAt p.atName; holding [v, ov] (setAttr ov x v); release [v, ov] []) _ _ _
  refine wpAny_bind (wpAny_holding (e1 C I fun φ' N' u h' tk I' X' hu => wpAny_bind (wpAny_standAt (wpAny_bind (wpAny_holding ?_)))))
  refine e2 (s := ⟨h', s.gens, s.drawn, tk, s.os⟩) C I' hu (V.stay (X'.stay I.hr) _ _ hv) fun φ'' N'' h'' tk' I'' X'' => ?_
  exact wpAny_release (k _ _ _ _ _ I'' (X'.trans X''))
theorem stS_ok (he : SndE K rc.ev n) {sc : Scope} {o i : Expr} {p : Pos} {g : GV} {st : St} : AsR K n sc (.Subscript o i p) g (stS rc sc o i g st) st := by
  unfold stS
  cases hi : noSlice i with
  | false => exact AsR.none
  | true =>
    intro c u st' h hc
    apply rb_elim h hc
    clear h hc
    intro c₁ ov st₁ c₂ h1 h2 hc
    apply rb_elim h2 hc.right
    clear h2
    intro c₃ iv st₂ c₄ h3 h4 hc2
    obtain ⟨l1, e1⟩ := he _ _ _ _ _ _ h1 hc.left
    obtain ⟨l2, e2⟩ := he _ _ _ _ _ _ h3 hc2.left
    obtain ⟨l3, e3⟩ := snd_setItem (K := K) (n := n) h4 hc2.right
    rw [l1] at e2
    rw [l3, l2, l1]
    clear h1 h3 h4 hc hc2 l1 l2 l3
    intro prog w A E s h₀ env φ N m v Q C I hv k
    rw [arm_assign_Subscript]
    refine wpAny_bind (wpAny_holding (e1 C I fun φ' N' u h' tk I' X' hu => wpAny_bind (wpAny_holding ?_)))
    refine e2 (s := ⟨h', s.gens, s.drawn, tk, s.os⟩) C I' fun φ'' N'' iu h'' tk' I'' X'' hiu => wpAny_bind (wpAny_standAt (wpAny_bind (wpAny_holding ?_)))
    have S2 := X''.stay I'.hr
    refine e3 (s := ⟨h'', s.gens, s.drawn, tk', s.os⟩) (vs := [u, iu, v]) C I'' ⟨u, [iu, v], rfl, V.stay S2 _ _ hu, iu, [v], rfl, hiu, v, [], rfl, V.stay S2 _ _ (V.stay (X'.stay I.hr) _ _ hv), rfl⟩ fun φ3 N3 _ h3' tk3 I3 X3 _ => ?_
    exact wpAny_release (k _ _ _ _ _ I3 ((X'.trans X'').trans X3))
theorem AsOK.tup {sc : Scope} {es : List Expr} {kk : Nat} {p : Pos} {gs : List GV} {loc loc' : Loc} {ah : AH} (H : Nms sc es gs loc loc') : AsOK K n sc (.Tuple es kk p) (.tup gs) loc ah loc' ah := by
  intro prog w A E s h₀ env φ N m v Q C I hv k
  obtain ⟨ad, ws, rfl, hx, T⟩ := I.tup C.kin hv
  obtain ⟨a1, a2⟩ := H.each (env := env)
  refine unpackN_ I.fr I.nw T C.hand (by rw [a1, List.size_toArray, hx.length]) a2 fun h' F' N' => ?_
  exact H.run (s := s) C ⟨F', N', I.hr, I.lc⟩ (by rw [List.toList_toArray]; exact hx) fun m' h'' tk' I'' => k _ _ _ _ _ I'' (Ext.refl ..)
theorem AsOK.list {sc : Scope} {es : List Expr} {kk : Nat} {p : Pos} {r : Rf} {gs : List GV} {loc loc' : Loc} {ah : AH} (g1 : ah.get r = some (.list gs)) (H : Nms sc es gs loc loc') : AsOK K n sc (.Tuple es kk p) (.obj r) loc ah loc' ah := by
  intro prog w A E s h₀ env φ N m v Q C I hv k
  obtain ⟨pp, ws, kc, hp, rfl, hm, hx, L⟩ := I.list g1 hv
  obtain ⟨a1, a2⟩ := H.each (env := env)
  refine kun_list I.fr I.nw L C.hand (by rw [a1, List.size_toArray, hx.length]) a2 fun h' F' N' => ?_
  exact H.run (s := s) C ⟨F', N', I.hr, I.lc⟩ (by rw [List.toList_toArray]; exact hx) fun m' h'' tk' I'' => k _ _ _ _ _ I'' (Ext.refl ..)
theorem stT_ok {sc : Scope} {es : List Expr} {kk : Nat} {p : Pos} {g : GV} {st : St} : AsR K n sc (.Tuple es kk p) g (stT sc es g st) st := by
  cases g with
  | tup gs =>
    intro c u st' h hc
    obtain ⟨e, H⟩ := names_inv h
    rw [e]
    exact @AsOK.tup K n _ _ _ _ _ _ _ _ H
  | obj r =>
    intro c u st' h hc
    unfold stT at h
    apply rb_elim h hc
    clear h hc
    intro c₁ ob st₁ c₂ h1 h2 hc
    obtain ⟨g1, S⟩ := deref_inv h1 hc.left
    cases ob with
    | list gs =>
      obtain ⟨e, H⟩ := names_inv h2
      rw [e, S.2]
      rw [S.1] at H
      exact @AsOK.list K n _ _ _ _ _ _ _ _ _ g1 H
    | _ => exact none_ne h2
  | _ => exact AsR.none
theorem storeR (OK : PrOK K P) (he : SndE K rc.ev n) {sc : Scope} {t : Expr} {g : GV} {st : St} : AsR K n sc t g (storeG P rc sc t g st) st := by
  cases t with
  | Name => exact stN_ok
  | Attribute => exact stA_ok OK he
  | Subscript => exact stS_ok he
  | Tuple => exact stT_ok
  | _ => exact AsR.none
theorem snd_store (OK : PrOK K P) (he : SndE K rc.ev n) {sc : Scope} {t : Expr} {g : GV} {st st' : St} {c : List Prop} {u : Unit} (h : storeG P rc sc t g st = some (c, u, st')) (hc : AllP c) : AsOK K n sc t g st.loc st.ah st'.loc st'.ah := storeR OK he _ _ _ h hc
end
end Mine
end

section
set_option maxRecDepth 100000
set_option autoImplicit false
set_option linter.unusedVariables false
namespace Mine
open PySem PySem.W PySem.Calls PyProof.Rows

section
variable {K : Frag} {P : Pr} {O : Orc} {n : Nat} {rc : Rc}

theorem swaps_plain {e : Expr} {t : Option Expr} {l : Nat} {env : Env} (h : noComp e = true) : swapsWith e t l env = pure false := by
  cases e <;> first | rfl | cases h
theorem stores_plain {t e : Expr} {env : Env} (h : ((isTup t || isLst t) && isTup e) = false) : swappedStores [t] e env = pure none := by
  cases t <;> first | rfl | (cases e <;> first | rfl | cases h)
theorem CX.notInter {A : Around} {h₀ : Heap} {env : Env} {sc : Scope} (C : CX K A h₀ env sc n) : interactive env = false := by
  obtain ⟨cn, aa, cd, henv⟩ := C.envE
  rw [henv]
  show (sc.kind == .module && _) = false
  rw [C.kind]; rfl

theorem StOK.ofEx {sc : Scope} {s : Stmt} {loc loc' : Loc} {ah ah' : AH} {fl : Fl} (h : StOK K n sc s loc ah fl loc' ah') : ExOK K n sc [s] loc ah fl loc' ah' := by
  intro prog w A E st h₀ env φ N m Q C I k
  refine wpAny_execs_cons (h C I fun φ' N' m' f h' tk I' X' hf => ?_)
  cases fl with
  | nxt => have hf : f = .next := hf; subst hf; exact wpAny_execs_nil (k _ _ _ _ _ _ I' X' rfl)
  | brk => have hf : f = .brk := hf; subst hf; exact k _ _ _ _ _ _ I' X' rfl
  | ret g => obtain ⟨v, rfl, hv⟩ := hf; exact k _ _ _ _ _ _ I' X' ⟨v, rfl, hv⟩
theorem ExOK.nil {sc : Scope} {loc : Loc} {ah : AH} : ExOK K n sc [] loc ah .nxt loc ah := by
  intro prog w A E st h₀ env φ N m Q C I k
  exact wpAny_execs_nil (k _ _ _ _ _ _ I (Ext.refl ..) rfl)
theorem ExOK.cons {sc : Scope} {s : Stmt} {ss : List Stmt} {loc loc1 loc2 : Loc} {ah ah1 ah2 : AH} {fl : Fl} (h : StOK K n sc s loc ah .nxt loc1 ah1) (h2 : ExOK K n sc ss loc1 ah1 fl loc2 ah2) : ExOK K n sc (s :: ss) loc ah fl loc2 ah2 := by
  intro prog w A E st h₀ env φ N m Q C I k
  refine wpAny_execs_cons (h C I fun φ' N' m' f h' tk I' X' hf => ?_)
  have hf : f = .next := hf
  subst hf
  exact h2 (s := ⟨h', st.gens, st.drawn, tk, st.os⟩) C I' fun φ'' N'' m'' f h'' tk' I'' X'' hf => k _ _ _ _ _ _ I'' (X'.trans X'') hf
theorem ExOK.stop {sc : Scope} {s : Stmt} {ss : List Stmt} {loc loc1 : Loc} {ah ah1 : AH} {fl : Fl} (h : StOK K n sc s loc ah fl loc1 ah1) (hn : fl ≠ .nxt) : ExOK K n sc (s :: ss) loc ah fl loc1 ah1 := by
  intro prog w A E st h₀ env φ N m Q C I k
  refine wpAny_execs_cons (h C I fun φ' N' m' f h' tk I' X' hf => ?_)
  cases fl with
  | nxt => exact absurd rfl hn
  | brk => have hf : f = .brk := hf; subst hf; exact k _ _ _ _ _ _ I' X' rfl
  | ret g => obtain ⟨v, rfl, hv⟩ := hf; exact k _ _ _ _ _ _ I' X' ⟨v, rfl, hv⟩

theorem StOK.if {sc : Scope} {t : Expr} {b o : List Stmt} {pos : Pos} {loc loc2 : Loc} {ah ah1 ah2 : AH} {c : Bool} {fl : Fl} (h1 : TsOK K n sc t loc ah c ah1) (h2 : ExOK K n sc (if c then b else o) loc ah1 fl loc2 ah2) : StOK K n sc (.If t b o pos) loc ah fl loc2 ah2 := by
  intro prog w A E st h₀ env φ N m Q C I k
  refine wpAny_If (h1 C I fun φ' N' h' tk I' X' => ?_)
  cases c with
  | true => exact h2 (s := ⟨h', st.gens, st.drawn, tk, st.os⟩) C I' fun φ'' N'' m'' f h'' tk' I'' X'' hf => k _ _ _ _ _ _ I'' (X'.trans X'') hf
  | false => exact h2 (s := ⟨h', st.gens, st.drawn, tk, st.os⟩) C I' fun φ'' N'' m'' f h'' tk' I'' X'' hf => k _ _ _ _ _ _ I'' (X'.trans X'') hf

/-- the turns of a while -/
inductive WhOK (K : Frag) (n : Nat) (sc : Scope) (t : Expr) (body : List Stmt) : Loc → AH → Fl → Loc → AH → Prop
  | done {loc : Loc} {ah ah1 : AH} : TsOK K n sc t loc ah false ah1 → WhOK K n sc t body loc ah .nxt loc ah1
  | nxt {loc loc1 loc2 : Loc} {ah ah1 ah2 ah3 : AH} {fl : Fl} : TsOK K n sc t loc ah true ah1 → ExOK K n sc body loc ah1 .nxt loc1 ah2 → WhOK K n sc t body loc1 ah2 fl loc2 ah3 → WhOK K n sc t body loc ah fl loc2 ah3
  | brk {loc loc1 : Loc} {ah ah1 ah2 : AH} : TsOK K n sc t loc ah true ah1 → ExOK K n sc body loc ah1 .brk loc1 ah2 → WhOK K n sc t body loc ah .nxt loc1 ah2
  | ret {loc loc1 : Loc} {ah ah1 ah2 : AH} {g : GV} : TsOK K n sc t loc ah true ah1 → ExOK K n sc body loc ah1 (.ret g) loc1 ah2 → WhOK K n sc t body loc ah (.ret g) loc1 ah2
/-- the number of turns -/
inductive WhN (K : Frag) (n : Nat) (sc : Scope) (t : Expr) (body : List Stmt) : Nat → Loc → AH → Fl → Loc → AH → Prop
  | done {loc : Loc} {ah ah1 : AH} : TsOK K n sc t loc ah false ah1 → WhN K n sc t body 0 loc ah .nxt loc ah1
  | nxt {k : Nat} {loc loc1 loc2 : Loc} {ah ah1 ah2 ah3 : AH} {fl : Fl} : TsOK K n sc t loc ah true ah1 → ExOK K n sc body loc ah1 .nxt loc1 ah2 → WhN K n sc t body k loc1 ah2 fl loc2 ah3 → WhN K n sc t body (k + 1) loc ah fl loc2 ah3
  | brk {loc loc1 : Loc} {ah ah1 ah2 : AH} : TsOK K n sc t loc ah true ah1 → ExOK K n sc body loc ah1 .brk loc1 ah2 → WhN K n sc t body 0 loc ah .nxt loc1 ah2
  | ret {loc loc1 : Loc} {ah ah1 ah2 : AH} {g : GV} : TsOK K n sc t loc ah true ah1 → ExOK K n sc body loc ah1 (.ret g) loc1 ah2 → WhN K n sc t body 0 loc ah (.ret g) loc1 ah2
theorem WhOK.count {sc : Scope} {t : Expr} {body : List Stmt} {loc loc' : Loc} {ah ah' : AH} {fl : Fl} (h : WhOK K n sc t body loc ah fl loc' ah') : ∃ k, WhN K n sc t body k loc ah fl loc' ah' := by
  induction h with
  | done h => exact ⟨_, .done h⟩
  | nxt a b _ ih => obtain ⟨k, ih⟩ := ih; exact ⟨_, .nxt a b ih⟩
  | brk a b => exact ⟨_, .brk a b⟩
  | ret a b => exact ⟨_, .ret a b⟩
/-- what stands at a turn of a while -/
inductive WInv (K : Frag) (P : Params) (h₀ : Heap) (L : Addr) (n : Nat) (sc : Scope) (t : Expr) (body : List Stmt) (φ : Phi) (ah : AH) (N : Led) (fl : Fl) (loc' : Loc) (ah' : AH) (s : Shared) (c : Nat) (s' : Shared) : Prop
  | mk (loc1 : Loc) (ah1 : AH) (φ1 : Phi) (N1 : Led) (m1 : Str → Option Value) (h1 : Heap) (tk1 : Nat) (e : s' = ⟨h1, s.gens, s.drawn, tk1, s.os⟩) (I : Li K P h₀ L loc1 ah1 φ1 N1 m1 h1) (X : Ext φ ah N φ1 ah1 N1) (W : WhN K n sc t body c loc1 ah1 fl loc' ah') : WInv K P h₀ L n sc t body φ ah N fl loc' ah' s c s'
theorem WhOK.stmt {sc : Scope} {t : Expr} {body : List Stmt} {loc loc' : Loc} {ah ah' : AH} {fl : Fl} {pos : Pos} (h : WhOK K n sc t body loc ah fl loc' ah') : StOK K n sc (.While t body [] pos) loc ah fl loc' ah' := by
  obtain ⟨cnt, h⟩ := h.count
  intro prog w A E st h₀ env φ N m Q C I k
  refine wpAny_While ?_
  refine codeAny_whileLoop (fun c s' => WInv K w.params h₀ env.locals n sc t body φ ah N fl loc' ah' st c s') ?_ cnt ⟨loc, ah, φ, N, m, st.heap, st.toks, rfl, I, Ext.refl .., h⟩
  clear h I
  rintro c s' ⟨loc1, ah1, φ1, N1, m1, h1, tk1, rfl, I1, X1, W⟩
  cases W with
  | done ht =>
    exact ht (s := ⟨h1, st.gens, st.drawn, tk1, st.os⟩) C I1 fun φ' N' h' tk I' X' => wpAny_execs_nil (k _ _ _ _ _ _ I' (X1.trans X') rfl)
  | nxt ht hb W' =>
    refine ht (s := ⟨h1, st.gens, st.drawn, tk1, st.os⟩) C I1 fun φ' N' h' tk I' X' => ?_
    refine hb (s := ⟨h', st.gens, st.drawn, tk, st.os⟩) C I' fun φ'' N'' m'' f h'' tk' I'' X'' hf => ?_
    have hf : f = .next := hf
    subst hf
    exact ⟨_, Nat.lt_succ_self _, _, _, φ'', N'', m'', h'', tk', rfl, I'', (X1.trans X').trans X'', W'⟩
  | brk ht hb =>
    refine ht (s := ⟨h1, st.gens, st.drawn, tk1, st.os⟩) C I1 fun φ' N' h' tk I' X' => ?_
    refine hb (s := ⟨h', st.gens, st.drawn, tk, st.os⟩) C I' fun φ'' N'' m'' f h'' tk' I'' X'' hf => ?_
    have hf : f = .brk := hf
    subst hf
    exact k _ _ _ _ _ _ I'' ((X1.trans X').trans X'') rfl
  | ret ht hb =>
    refine ht (s := ⟨h1, st.gens, st.drawn, tk1, st.os⟩) C I1 fun φ' N' h' tk I' X' => ?_
    refine hb (s := ⟨h', st.gens, st.drawn, tk, st.os⟩) C I' fun φ'' N'' m'' f h'' tk' I'' X'' hf => ?_
    obtain ⟨v, rfl, hv⟩ := hf
    exact k _ _ _ _ _ _ I'' ((X1.trans X').trans X'') ⟨v, rfl, hv⟩

theorem snd_turns (hx : SndX K rc.ex n) {sc : Scope} {x : Str} {body : List Stmt} {chk : AH → List Prop} : ∀ (gs : List GV) {st st' : St} {c : List Prop} {fl : Fl}, turnsG (rc.ex sc) x body chk gs st = some (c, fl, st') → AllP c → AllP (chk st.ah) →
    TnOK K n sc x body (fun ah => AllP (chk ah)) gs st.loc st.ah fl st'.loc st'.ah
  | [], st, st', c, fl, h, hc, ck => by
    cases h; exact .nil ck
  | g :: gs, st, st', c, fl, h, hc, ck => by
    unfold turnsG at h
    apply rb_elim h hc
    clear h hc
    intro c₁ f1 st₁ c₂ h1 h2 hc
    have e1 : ExOK K n sc body ((x, g) :: st.loc) st.ah f1 st₁.loc st₁.ah := hx _ _ _ _ _ _ h1 hc.left
    cases f1 with
    | nxt =>
      dsimp only at h2
      split at h2
      · cases h2
      · rename_i c3 fl3 st3 h3
        cases h2
        exact .nxt ck e1 (snd_turns hx gs h3 hc.right.right hc.right.left)
    | brk => cases h2; exact .brk ck e1
    | ret r => cases h2; exact .ret ck e1
theorem TnOK.weak {sc : Scope} {x : Str} {body : List Stmt} {chk chk' : AH → Prop} (w : ∀ ah, chk ah → chk' ah) {gs : List GV} {loc loc' : Loc} {ah ah' : AH} {fl : Fl} (h : TnOK K n sc x body chk gs loc ah fl loc' ah') : TnOK K n sc x body chk' gs loc ah fl loc' ah' := by
  induction h with
  | nil a => exact .nil (w _ a)
  | nxt a b _ ih => exact .nxt (w _ a) b ih
  | brk a b => exact .brk (w _ a) b
  | ret a b => exact .ret (w _ a) b

theorem isRange_inv {i e : Expr} (h : forG.isRange i = some e) : ∃ pf pc, i = .Call (.Name "range" pf) [e] [] pc ∧ isStar e = false := by
  cases i with
  | Call f args kws pc => cases f with
    | Name f pf =>
      unfold forG.isRange at h
      dsimp only at h
      cases q : f == ("range" : Str) with
      | false => rw [q] at h; exact none_ne h
      | true =>
        rw [q] at h
        rw [beq_iff_eq.mp q]
        cases kws with
        | cons => exact none_ne h
        | nil => cases args with
          | nil => exact none_ne h
          | cons e r => cases r with
            | cons => exact none_ne h
            | nil =>
              dsimp only at h
              cases q : isStar e with
              | true => rw [q] at h; exact none_ne h
              | false => rw [q] at h; cases h; exact ⟨pf, pc, rfl, q⟩
    | _ => exact none_ne h
  | _ => exact none_ne h
theorem rangeOf_inv {sc : Scope} (h : rangeOf P sc = true) : sc.names.lookup ("range" : Str) = some .globalImplicit ∧ P.glob.lookup ("range" : Str) = some (.ty "range") := by
  unfold rangeOf at h
  cases q : sc.names.lookup ("range" : Str) with
  | none => rw [q] at h; cases h
  | some k =>
    rw [q] at h
    cases k with
    | globalImplicit =>
      dsimp only at h
      cases q2 : P.glob.lookup ("range" : Str) with
      | none => rw [q2] at h; cases h
      | some g =>
        rw [q2] at h
        cases g with
        | ty id =>
          obtain rfl : id = "range" := of_decide_eq_true h
          exact ⟨rfl, rfl⟩
        | _ => cases h
    | _ => cases h
section
variable {sc : Scope} {x : Str} {px pos : Pos} {i : Expr} {body : List Stmt} {loc : Loc} {ah : AH} {st st' : St} {c : List Prop} {fl : Fl} {g : GV}
theorem forV_ok (he : SndE K rc.ev n) (hx : SndX K rc.ex n) (hl : sc.names.lookup x = some .local) (hs : forG.isSet i = false) (e1 : EvOK K n sc i loc ah g st.ah) (l : st.loc = loc) (h : forV rc sc x body g st = some (c, fl, st')) (hc : AllP c) :
    StOK K n sc (.For (.Name x px) i body [] pos) loc ah fl st'.loc st'.ah := by
  cases g with
  | str z =>
    have T := snd_turns hx _ h hc AllP.nil
    rw [l] at T
    intro _ _ _ _ _ _ _ _ _ _ _ C I k
    exact for_str hl hs e1 (T.weak fun _ _ => trivial) C I k
  | tup xs =>
    have T := snd_turns hx _ h hc AllP.nil
    rw [l] at T
    intro _ _ _ _ _ _ _ _ _ _ _ C I k
    exact for_tup hl hs e1 (T.weak fun _ _ => trivial) C I k
  | obj r =>
    unfold forV at h
    apply rb_elim h hc
    clear h hc
    intro c₃ o st₂ c₄ h3 h4 hc
    obtain ⟨g1, S⟩ := deref_inv h3 hc.left
    cases o with
    | list xs =>
      have T := snd_turns hx _ h4 hc.right (by rw [S.2]; exact AllP.cons g1 AllP.nil)
      rw [S.1, S.2, l] at T
      intro _ _ _ _ _ _ _ _ _ _ _ C I k
      exact for_list hl hs e1 g1 (T.weak fun ah a => a.one) C I k
    | _ => exact none_ne h4
  | _ => exact none_ne h
theorem snd_for (OK : PrOK K P) (he : SndE K rc.ev n) (hx : SndX K rc.ex n) (h : forG P rc sc x i body st = some (c, fl, st')) (hc : AllP c) (hl : sc.names.lookup x = some .local) :
    StOK K n sc (.For (.Name x px) i body [] pos) st.loc st.ah fl st'.loc st'.ah := by
  unfold forG at h
  cases hr : forG.isRange i with
  | some e =>
    rw [hr] at h
    dsimp only at h
    cases hn : rangeOf P sc with
    | false => rw [hn] at h; exact none_ne h
    | true =>
      rw [hn] at h
      obtain ⟨hn1, hn2⟩ := rangeOf_inv hn
      obtain ⟨pf, pc, rfl, hp⟩ := isRange_inv hr
      apply rb_elim h hc
      clear h hc
      intro c₁ g st₁ c₂ h1 h2 hc
      obtain ⟨l1, e1⟩ := he _ _ _ _ _ _ h1 hc.left
      cases g with
      | int j =>
        unfold forR at h2
        dsimp only at h2
        cases q : natOf j with
        | none => rw [q] at h2; exact none_ne h2
        | some k =>
          rw [q] at h2
          obtain ⟨rfl, hk⟩ := natOf_inv q
          have T := snd_turns hx _ h2 hc.right AllP.nil
          rw [l1] at T
          intro _ _ _ _ _ _ _ _ _ _ _ C I k
          exact for_range OK hl hn1 hn2 (fun y p q => by rw [q] at hp; cases hp) e1 hk (T.weak fun _ _ => trivial) C I k
      | _ => exact none_ne h2
  | none =>
    rw [hr] at h
    dsimp only at h
    cases hs : forG.isSet i with
    | true => rw [hs] at h; exact none_ne h
    | false =>
      rw [hs] at h
      apply rb_elim h hc
      clear h hc
      intro c₁ g st₁ c₂ h1 h2 hc
      obtain ⟨l1, e1⟩ := he _ _ _ _ _ _ h1 hc.left
      exact forV_ok he hx hl hs e1 l1 h2 hc.right
end
end
end Mine
end

section
set_option maxRecDepth 100000
set_option autoImplicit false
set_option linter.unusedVariables false
set_option tactic.hygienic false
namespace Mine
open PySem PySem.W PySem.Calls PyProof.Rows

section
variable {K : Frag} {P : Pr} {O : Orc} {n : Nat} {rc : Rc}

noncomputable def SndW (K : Frag) (wh : Scope → Expr → List Stmt → St → R Fl) (n : Nat) : Prop :=
  ∀ (sc : Scope) (t : Expr) (b : List Stmt) (st : St) (c : List Prop) (g : Fl) (st' : St), wh sc t b st = some (c, g, st') → AllP c → WhOK K n sc t b st.loc st.ah g st'.loc st'.ah
theorem WhOK.up {k : Nat} {sc : Scope} {t : Expr} {b : List Stmt} {loc loc' : Loc} {ah ah' : AH} {fl : Fl} (h : WhOK K n sc t b loc ah fl loc' ah') (q : n ≤ k) : WhOK K k sc t b loc ah fl loc' ah' := by
  induction h with
  | done h => exact .done (TsOK.up h q)
  | nxt a b _ ih => exact .nxt (TsOK.up a q) (ExOK.up b q) ih
  | brk a b => exact .brk (TsOK.up a q) (ExOK.up b q)
  | ret a b => exact .ret (TsOK.up a q) (ExOK.up b q)
theorem snd_wh (ht : SndT K rc.ts n) (hx : SndX K rc.ex n) (hw : SndW K rc.wh n) {sc : Scope} {t : Expr} {b : List Stmt} {st st' : St} {c : List Prop} {fl : Fl} (h : whS rc sc t b st = some (c, fl, st')) (hc : AllP c) :
    WhOK K n sc t b st.loc st.ah fl st'.loc st'.ah := by
  unfold whS at h
  apply rb_elim h hc
  clear h hc
  intro c₁ b0 st₁ c₂ h1 h2 hc
  apply rb_elim h2 hc.right
  clear h2
  intro c₃ b1 st₂ c₄ h3 h4 hc2
  obtain ⟨l1, e1⟩ := ht _ _ _ _ _ _ h1 hc.left
  obtain ⟨rfl, S⟩ := ask_inv h3 hc2.left
  cases b0 with
  | false =>
    have h4 : rp Fl.nxt st₂ = some (c₄, fl, st') := h4
    cases h4
    rw [S.1, S.2, l1]
    exact .done e1
  | true =>
    apply rb_elim h4 hc2.right
    clear h4
    intro c₅ f1 st₃ c₆ h5 h6 hc3
    have e2 : ExOK K n sc b st₂.loc st₂.ah f1 st₃.loc st₃.ah := hx _ _ _ _ _ _ h5 hc3.left
    rw [S.2, S.1, l1] at e2
    cases f1 with
    | nxt => exact .nxt e1 e2 (hw _ _ _ _ _ _ _ h6 hc3.right)
    | brk => cases h6; exact .brk e1 e2
    | ret g => cases h6; exact .ret e1 e2

/-- what is to be shown of a statement -/
noncomputable def FlR (K : Frag) (n : Nat) (sc : Scope) (s : Stmt) (x : R Fl) (st : St) : Prop := ∀ (c : List Prop) (fl : Fl) (st' : St), x = some (c, fl, st') → AllP c → StOK K n sc s st.loc st.ah fl st'.loc st'.ah
theorem FlR.none {sc : Scope} {s : Stmt} {st : St} : FlR K n sc s none st := fun _ _ _ h _ => by cases h
theorem FlR.hint (OO : OrOK K n O) {sc : Scope} {s : Stmt} {fl : Fl} {loc : Loc} {ah : AH} {r : List H} {st : St} : FlR K n sc s (some ([O.stmt sc s st.loc st.ah fl loc ah], fl, ⟨loc, ah, r⟩)) st := fun _ _ _ h hc => by
  cases h; exact OO.stmt _ _ _ _ _ _ _ hc.one
theorem FlR.rp {sc : Scope} {s : Stmt} {fl : Fl} {st : St} (x : StOK K n sc s st.loc st.ah fl st.loc st.ah) : FlR K n sc s (rp fl st) st := fun _ _ _ h _ => by
  cases h; exact x
theorem StOK.expr {sc : Scope} {e : Expr} {p : Pos} {loc : Loc} {ah ah1 : AH} {g : GV} (hn : noComp e = true) (e1 : EvOK K n sc e loc ah g ah1) : StOK K n sc (.Expr e p) loc ah .nxt loc ah1 := by
  intro prog w A E s h₀ env φ N m Q C I k
  exact wpAny_Expr_any (e1 C I fun φ' N' v h' tk I' X' hv => k _ _ _ _ _ _ I' X' rfl) C.notInter (swaps_plain hn)
theorem StOK.assign {sc : Scope} {t e : Expr} {p : Pos} {loc loc' : Loc} {ah ah1 ah2 : AH} {g : GV} (hn : noComp e = true) (hs : ((isTup t || isLst t) && isTup e) = false) (one : ∀ env, (assignEach [t] env).map (·.2) = [assign t env]) (e1 : EvOK K n sc e loc ah g ah1) (e2 : AsOK K n sc t g loc ah1 loc' ah2) :
    StOK K n sc (.Assign [t] e p) loc ah .nxt loc' ah2 := by
  intro prog w A E s h₀ env φ N m Q C I k
  refine wpAny_Assign_stores (e1 C I fun φ' N' v h' tk I' X' hv => ?_) (swaps_plain hn) (stores_plain hs)
  rw [one env]
  exact e2 (s := ⟨h', s.gens, s.drawn, tk, s.os⟩) C I' hv fun φ'' N'' m'' h'' tk' I'' X'' => k _ _ _ _ _ _ I'' (X'.trans X'') rfl
theorem StOK.augN {sc : Scope} {x : Str} {px p : Pos} {op : Operator} {e : Expr} {loc : Loc} {ah ah1 ah2 : AH} {g v r : GV} (hl : sc.names.lookup x = some .local) (hg : loc.lookup x = some g) (e1 : EvOK K n sc e loc ah v ah1) (e2 : Wv K n [g, v] (t2 (inplaceOp op)) ah1 (rV K r) ah2) :
    StOK K n sc (.AugAssign (.Name x px) op e p) loc ah .nxt ((x, r) :: loc) ah2 := by
  intro prog w A E s h₀ env φ N m Q C I k
  obtain ⟨old, ho, hv0⟩ := I.lc x g hg
  refine wpAny_AugAssign_Name (wpAny_loadName_local (by obtain ⟨cn, aa, cd, henv⟩ := C.envE; rw [henv]; exact C.kind) (C.kindL hl) I.fr.ns ho ?_)
  refine e1 C I fun φ' N' u h' tk I' X' hu => ?_
  refine e2 (s := ⟨h', s.gens, s.drawn, tk, s.os⟩) (vs := [old, u]) C I' ⟨old, [u], rfl, V.stay (X'.stay I.hr) _ _ hv0, u, [], rfl, hu, rfl⟩ fun φ'' N'' y h'' tk' I'' X'' hy => ?_
  exact Li.store (s := ⟨h'', s.gens, s.drawn, tk', s.os⟩) I'' C rfl hl hy fun h3' tk3 I3 _ => k _ _ _ _ _ _ I3 (X'.trans X'') rfl
theorem exE_ok (he : SndE K rc.ev n) {sc : Scope} {e : Expr} {p : Pos} {st : St} : FlR K n sc (.Expr e p) (exE rc sc e st) st := by
  unfold exE
  cases hn : noComp e with
  | false => exact FlR.none
  | true =>
    intro c fl st' h hc
    apply rb_elim h hc
    clear h hc
    intro c₁ g st₁ c₂ h1 h2 hc
    cases h2
    obtain ⟨l1, e1⟩ := he _ _ _ _ _ _ h1 hc.left
    rw [l1]
    exact @StOK.expr K n _ _ _ _ _ _ _ hn e1
theorem storeG_one {sc : Scope} {t : Expr} {g : GV} {st : St} {y : List Prop × Unit × St} (h : storeG P rc sc t g st = some y) (env : Env) : (assignEach [t] env).map (·.2) = [assign t env] := by
  cases t <;> first | rfl | cases h
theorem exA_ok (OK : PrOK K P) (he : SndE K rc.ev n) {sc : Scope} {ts : List Expr} {e : Expr} {p : Pos} {st : St} : FlR K n sc (.Assign ts e p) (exA P rc sc ts e st) st := by
  cases ts with
  | nil => exact FlR.none
  | cons t r => cases r with
    | cons => exact FlR.none
    | nil =>
      show FlR K n sc _ (exA1 P rc sc t e st) st
      unfold exA1
      cases hn : noComp e && !((isTup t || isLst t) && isTup e) with
      | false => exact FlR.none
      | true =>
        obtain ⟨hn, hs⟩ := Bool.and_eq_true_iff.mp hn
        have hs := Bool.not_eq_true' _ ▸ hs
        intro c fl st' h hc
        apply rb_elim h hc
        clear h hc
        intro c₁ g st₁ c₂ h1 h2 hc
        apply rb_elim h2 hc.right
        clear h2
        intro c₃ u st₂ c₄ h3 h4 hc2
        cases h4
        obtain ⟨l1, e1⟩ := he _ _ _ _ _ _ h1 hc.left
        have e2 : AsOK K n sc t g st₁.loc st₁.ah st'.loc st'.ah := snd_store OK he h3 hc2.left
        rw [l1] at e2
        exact @StOK.assign K n _ _ _ _ _ _ _ _ _ _ hn hs (storeG_one h3) e1 e2
theorem exG_ok (OK : PrOK K P) (he : SndE K rc.ev n) {sc : Scope} {t : Expr} {op : Operator} {e : Expr} {p : Pos} {st : St} : FlR K n sc (.AugAssign t op e p) (exG P rc sc t op e st) st := by
  cases t with
  | Name x px =>
    show FlR K n sc _ (exGN rc sc x op e st) st
    unfold exGN
    cases hl : isLoc sc x with
    | false => exact FlR.none
    | true => cases hg : st.loc.lookup x with
      | none => exact FlR.none
      | some g =>
        intro c fl st' h hc
        apply rb_elim h hc
        clear h hc
        intro c₁ v st₁ c₂ h1 h2 hc
        apply rb_elim h2 hc.right
        clear h2
        intro c₃ r st₂ c₄ h3 h4 hc2
        cases h4
        obtain ⟨l1, e1⟩ := he _ _ _ _ _ _ h1 hc.left
        obtain ⟨S, _, e2⟩ := snd_bin (K := K) (n := n) h3 hc2.left
        rw [S.1, l1]
        exact @StOK.augN K n _ _ _ _ _ _ _ _ _ _ _ _ _ (isLoc_inv hl) hg e1 e2
  | Attribute o x px =>
    intro c fl st' h hc
    have h : exGA P rc sc o x op e st = _ := h
    apply rb_elim h hc
    clear h hc
    intro c₁ ov st₁ c₂ h1 h2 hc
    apply rb_elim h2 hc.right
    clear h2
    intro c₃ g st₂ c₄ h3 h4 hc2
    apply rb_elim h4 hc2.right
    clear h4
    intro c₅ v st₃ c₆ h5 h6 hc3
    apply rb_elim h6 hc3.right
    clear h6
    intro c₇ r st₄ c₈ h7 h8 hc4
    apply rb_elim h8 hc4.right
    clear h8
    intro c₉ u st₅ ca h9 ha hc5
    cases ha
    obtain ⟨l1, e1⟩ := he _ _ _ _ _ _ h1 hc.left
    obtain ⟨S2, e2⟩ := snd_getAttr (n := n) OK h3 hc2.left
    obtain ⟨l3, e3⟩ := he _ _ _ _ _ _ h5 hc3.left
    obtain ⟨S4, _, e4⟩ := snd_bin (K := K) (n := n) h7 hc4.left
    obtain ⟨l5, e5⟩ := snd_setAttr (n := n) OK h9 hc5.left
    rw [S2.1, S2.2, l1] at e3
    rw [l5, S4.1, l3, S2.1, l1]
    intro prog w A E s h₀ env φ N m Q C I k
    refine wpAny_AugAssign_AttributeAny (e1 C I fun φ' N' u h' tk I' X' hu => ?_)
    refine e2 (s := ⟨h', s.gens, s.drawn, tk, s.os⟩) C I' hu fun old tk' hold => ?_
    refine e3 (s := ⟨h', s.gens, s.drawn, tk', s.os⟩) C I' fun φ'' N'' y h'' tk'' I'' X'' hy => ?_
    have Sx := X''.stay I'.hr
    refine e4 (s := ⟨h'', s.gens, s.drawn, tk'', s.os⟩) (vs := [old, y]) C I'' ⟨old, [y], rfl, V.stay Sx _ _ hold, y, [], rfl, hy, rfl⟩ fun φ3 N3 z h3' tk3 I3 X3 hz => ?_
    refine e5 (s := ⟨h3', s.gens, s.drawn, tk3, s.os⟩) C I3 (V.stay (X3.stay I''.hr) _ _ (V.stay Sx _ _ hu)) hz fun φ4 N4 h4' tk4 I4 X4 => ?_
    exact k _ _ _ _ _ _ I4 (((X'.trans X'').trans X3).trans X4) rfl
  | _ => exact FlR.none
theorem exIf_ok (ht : SndT K rc.ts n) (hx : SndX K rc.ex n) {sc : Scope} {t : Expr} {b o : List Stmt} {p : Pos} {st : St} : FlR K n sc (.If t b o p) (exIf rc sc t b o st) st := fun c fl st' h hc => by
  apply rb_elim h hc
  clear h hc
  intro c₁ b st₁ c₂ h1 h2 hc
  apply rb_elim h2 hc.right
  clear h2
  intro c₃ b1 st₂ c₄ h3 h4 hc2
  obtain ⟨l1, e1⟩ := ht _ _ _ _ _ _ h1 hc.left
  obtain ⟨rfl, S⟩ := ask_inv h3 hc2.left
  have S2 := S.2
  have l2 := S.1.trans l1
  cases b with
  | true =>
    have e2 : ExOK K n sc _ st₂.loc st₂.ah fl st'.loc st'.ah := hx _ _ _ _ _ _ h4 hc2.right
    rw [S2, l2] at e2
    exact @StOK.if _ _ _ _ _ _ _ _ _ _ _ _ true _ e1 e2
  | false =>
    have e2 : ExOK K n sc _ st₂.loc st₂.ah fl st'.loc st'.ah := hx _ _ _ _ _ _ h4 hc2.right
    rw [S2, l2] at e2
    exact @StOK.if _ _ _ _ _ _ _ _ _ _ _ _ false _ e1 e2
theorem exWh_ok (OO : OrOK K n O) (ht : SndT K rc.ts n) (hx : SndX K rc.ex n) (hw : SndW K rc.wh n) {sc : Scope} {t : Expr} {b o : List Stmt} {p : Pos} {st : St} : FlR K n sc (.While t b o p) (exWh O rc sc t b o p st) st := by
  unfold exWh
  cases hintW st.hs with
  | some q => exact FlR.hint OO
  | none => cases o with
    | nil => exact fun _ _ _ h hc => @WhOK.stmt _ _ _ _ _ _ _ _ _ _ _ (snd_wh ht hx hw h hc)
    | cons => exact FlR.none
theorem exFor_ok (OK : PrOK K P) (OO : OrOK K n O) (he : SndE K rc.ev n) (hx : SndX K rc.ex n) {sc : Scope} {t i : Expr} {b o : List Stmt} {p : Pos} {st : St} : FlR K n sc (.For t i b o p) (exFor P O rc sc t i b o p st) st := by
  unfold exFor
  cases hintW st.hs with
  | some q => exact FlR.hint OO
  | none => cases o with
    | nil => cases t with
      | Name x px =>
        show FlR K n sc _ (exFor1 P rc sc (.Name x px) i b st) st
        unfold exFor1
        dsimp only
        cases hl : isLoc sc x with
        | true => exact fun _ _ _ h hc => snd_for OK he hx h hc (isLoc_inv hl)
        | false => exact FlR.none
      | _ => exact FlR.none
    | cons => exact FlR.none
theorem exRet_ok (he : SndE K rc.ev n) {sc : Scope} {e : Option Expr} {p : Pos} {st : St} : FlR K n sc (.Return e p) (exRet rc sc e st) st := by
  cases e with
  | none => exact FlR.rp fun _ I k => wpAny_Return_none (k _ _ _ _ _ _ I (Ext.refl ..) ⟨.none, rfl, rfl⟩)
  | some e =>
    intro c fl st' h hc
    unfold exRet at h
    apply rb_elim h hc
    clear h hc
    intro c₁ g st₁ c₂ h1 h2 hc
    cases h2
    obtain ⟨l1, e1⟩ := he _ _ _ _ _ _ h1 hc.left
    rw [l1]
    intro prog w A E s h₀ env φ N m Q C I k
    exact wpAny_Return_some (e1 C I fun φ' N' v h' tk I' X' hv => k _ _ _ _ _ _ I' X' ⟨v, rfl, hv⟩)
theorem ex1R (OK : PrOK K P) (OO : OrOK K n O) (he : SndE K rc.ev n) (ht : SndT K rc.ts n) (hx : SndX K rc.ex n) (hw : SndW K rc.wh n) {sc : Scope} {s : Stmt} {st : St} : FlR K n sc s (ex1S P O rc sc s st) st := by
  cases s with
  | Expr => exact exE_ok he
  | Assign => exact exA_ok OK he
  | AugAssign => exact exG_ok OK he
  | If => exact exIf_ok ht hx
  | While => exact exWh_ok OO ht hx hw
  | For => exact exFor_ok OK OO he hx
  | Return => exact exRet_ok he
  | Break => exact FlR.rp fun _ I k => wpAny_Break (k _ _ _ _ _ _ I (Ext.refl ..) rfl)
  | Pass => exact FlR.rp fun _ I k => wpAny_Pass (k _ _ _ _ _ _ I (Ext.refl ..) rfl)
  | _ => exact FlR.none
theorem snd_ex1 (OK : PrOK K P) (OO : OrOK K n O) (he : SndE K rc.ev n) (ht : SndT K rc.ts n) (hx : SndX K rc.ex n) (hw : SndW K rc.wh n) {sc : Scope} {s : Stmt} {st st' : St} {c : List Prop} {fl : Fl} (h : ex1S P O rc sc s st = some (c, fl, st')) (hc : AllP c) :
    StOK K n sc s st.loc st.ah fl st'.loc st'.ah := ex1R OK OO he ht hx hw _ _ _ h hc
end
end Mine
end

section
set_option maxRecDepth 100000
set_option autoImplicit false
set_option linter.unusedVariables false
namespace Mine
open PySem PySem.W PySem.Calls PyProof.Rows

section
variable {K : Frag} {P : Pr} {O : Orc} {n : Nat} {rc : Rc}

theorem snd_execL (OK : PrOK K P) (OO : OrOK K n O) (he : SndE K rc.ev n) (ht : SndT K rc.ts n) (hx : SndX K rc.ex n) (hw : SndW K rc.wh n) {sc : Scope} : ∀ (ss : List Stmt) {st st' : St} {c : List Prop} {fl : Fl}, execL (ex1S P O rc sc) ss st = some (c, fl, st') → AllP c →
    ExOK K n sc ss st.loc st.ah fl st'.loc st'.ah
  | [], st, st', c, fl, h, hc => by cases h; exact ExOK.nil
  | s :: ss, st, st', c, fl, h, hc => by
    unfold execL at h
    apply rb_elim h hc
    clear h hc
    intro c₁ f1 st₁ c₂ h1 h2 hc
    have e1 : StOK K n sc s st.loc st.ah f1 st₁.loc st₁.ah := snd_ex1 OK OO he ht hx hw h1 hc.left
    cases f1 with
    | nxt => exact ExOK.cons e1 (snd_execL OK OO he ht hx hw ss h2 hc.right)
    | brk => cases h2; exact ExOK.stop e1 (fun q => by cases q)
    | ret g => cases h2; exact ExOK.stop e1 (fun q => by cases q)

/-- a def's body gives its call -/
theorem ClOK.body (OK : PrOK K P) {f : Nat} {fi : FI} (hf : P.fns.lookup f = some fi) {ga : List GV} {ah ah' : AH} {fl : Fl} {loc' : Loc} {g : GV} (ok : bndOk fi.ns fi.ds ga = true) (h : ExOK K n fi.scope fi.body (bnd fi.ns fi.ds ga) ah fl loc' ah')
    (hg : fl = .ret g ∨ (fl = .nxt ∧ g = .none)) : ClOK K (n + 1) f ga ah g ah' := by
  have fo := OK.fn _ _ hf
  refine ⟨fo.isf, ?_⟩
  intro prog w A A' s h₀ env sc loc φ N m R vs C h1 h2 h3 h4 I hv k
  refine r_code C I fo hv ok h1 h2 h3 h4 fun g0 env' h₁ m' tk C' I' => ?_
  refine h C' I' fun φ' N' m'' f' h' tk' I'' X'' hfl => ?_
  refine ⟨φ', ah', N', m'', h', tk', loc', rfl, I'', X'', fun I3 => ?_⟩
  rcases hg with rfl | ⟨rfl, rfl⟩
  · obtain ⟨v, rfl, hv⟩ := hfl
    exact k _ _ _ _ _ I3 X'' hv
  · have hfl : f' = .next := hfl
    subst hfl
    exact k _ _ _ _ _ I3 X'' rfl

theorem snd_cl (OK : PrOK K P) (OO : OrOK K n O) (hx : SndX K rc.ex n) : SndC K (clS P O rc) (n + 1) := by
  intro f ga st c g st' h hc
  unfold clS at h
  split at h
  · rename_i gg ahh r hr
    cases h
    refine ⟨rfl, ?_⟩
    exact (OO.call _ _ _ _ _ hc.one).up (Nat.le_succ n)
  · split at h
    · cases h
    · rename_i fi hf
      split at h
      · cases h
      · rename_i ok
        apply rb_elim h hc
        clear h hc
        intro c₁ fl st₁ c₂ h1 h2 hc
        have e1 : ExOK K n fi.scope fi.body (bnd fi.ns fi.ds ga) st.ah fl st₁.loc st₁.ah := hx _ _ _ _ _ _ h1 hc.left
        cases fl with
        | ret r => cases h2; exact ⟨rfl, ClOK.body OK hf ok e1 (.inl rfl)⟩
        | nxt => cases h2; exact ⟨rfl, ClOK.body OK hf ok e1 (.inr ⟨rfl, rfl⟩)⟩
        | brk => cases h2

theorem snd_mk (OK : PrOK K P) {b : Nat} (OO : OrOK K b O) : ∀ j : Nat, SndE K (mk P O j).ev (b + j) ∧ SndT K (mk P O j).ts (b + j) ∧ SndX K (mk P O j).ex (b + j) ∧ SndC K (mk P O j).cl (b + j) ∧ SndW K (mk P O j).wh (b + j)
  | 0 => ⟨fun _ _ _ _ _ _ h => (by cases h), fun _ _ _ _ _ _ h => (by cases h), fun _ _ _ _ _ _ h => (by cases h), fun _ _ _ _ _ _ h => (by cases h), fun _ _ _ _ _ _ _ h => (by cases h)⟩
  | j + 1 => by
    obtain ⟨he, ht, hx, hcl, hw⟩ := snd_mk OK OO j
    have OO' : OrOK K (b + j) O := ⟨fun _ _ _ _ _ h => (OO.call _ _ _ _ _ h).up (Nat.le_add_right _ _), fun _ _ _ _ _ _ h => EvOK.up (OO.expr _ _ _ _ _ _ h) (Nat.le_add_right _ _), fun _ _ _ _ _ _ _ h => StOK.up (OO.stmt _ _ _ _ _ _ _ h) (Nat.le_add_right _ _)⟩
    refine ⟨fun sc e st c g st' h hc => ?_, fun sc e st c g st' h hc => ?_, fun sc e st c g st' h hc => ?_, snd_cl OK OO' hx, fun sc t bb st c g st' h hc => ?_⟩
    · obtain ⟨l, r⟩ := snd_ev OK OO' he ht hcl sc e st c g st' h hc
      exact ⟨l, EvOK.up r (Nat.le_succ _)⟩
    · obtain ⟨l, r⟩ := snd_ts OK he ht sc e st c g st' h hc
      exact ⟨l, TsOK.up r (Nat.le_succ _)⟩
    · exact ExOK.up (snd_execL OK OO' he ht hx hw _ h hc) (Nat.le_succ _)
    · exact WhOK.up (snd_wh ht hx hw h hc) (Nat.le_succ _)
end

/-- what the executor's constraints say, said as one -/
noncomputable def Ands : List Prop → Prop
  | [] => True
  | p :: r => p ∧ Ands r
theorem Ands.all : ∀ {c : List Prop}, Ands c → AllP c
  | [], _ => AllP.nil
  | p :: r, h => AllP.cons h.1 (Ands.all h.2)
/-- the oracle of the semantics -/
noncomputable def OrS (K : Frag) (n : Nat) : Orc := ⟨ClOK K n, EvOK K n, StOK K n⟩
theorem OrS.ok (K : Frag) (n : Nat) : OrOK K n (OrS K n) := ⟨fun _ _ _ _ _ h => h, fun _ _ _ _ _ _ h => h, fun _ _ _ _ _ _ _ h => h⟩

/-- a run of a call -/
theorem run_call {K : Frag} {P : Pr} (OK : PrOK K P) {b j : Nat} {f : Nat} {ga : List GV} {ah ah' : AH} {hs hs' : List H} {c : List Prop} {g : GV} {loc' : Loc}
    (h : (mk P (OrS K b) j).cl f ga ⟨[], ah, hs⟩ = some (c, g, ⟨loc', ah', hs'⟩)) (hc : Ands c) : ClOK K (b + j) f ga ah g ah' :=
  ((snd_mk OK (OrS.ok K b) j).2.2.2.1 _ _ _ _ _ _ h hc.all).2
theorem run_ex {K : Frag} {P : Pr} (OK : PrOK K P) {b j : Nat} {sc : Scope} {ss : List Stmt} {loc loc' : Loc} {ah ah' : AH} {hs hs' : List H} {c : List Prop} {fl : Fl}
    (h : (mk P (OrS K b) j).ex sc ss ⟨loc, ah, hs⟩ = some (c, fl, ⟨loc', ah', hs'⟩)) (hc : Ands c) : ExOK K (b + j) sc ss loc ah fl loc' ah' :=
  (snd_mk OK (OrS.ok K b) j).2.2.1 _ _ _ _ _ _ h hc.all
theorem run_ts {K : Frag} {P : Pr} (OK : PrOK K P) {b j : Nat} {sc : Scope} {e : Expr} {loc loc' : Loc} {ah ah' : AH} {hs hs' : List H} {c : List Prop} {r : Bool}
    (h : (mk P (OrS K b) j).ts sc e ⟨loc, ah, hs⟩ = some (c, r, ⟨loc', ah', hs'⟩)) (hc : Ands c) : TsOK K (b + j) sc e loc ah r ah' :=
  ((snd_mk OK (OrS.ok K b) j).2.1 _ _ _ _ _ _ h hc.all).2
theorem run_ev {K : Frag} {P : Pr} (OK : PrOK K P) {b j : Nat} {sc : Scope} {e : Expr} {loc loc' : Loc} {ah ah' : AH} {hs hs' : List H} {c : List Prop} {r : GV}
    (h : (mk P (OrS K b) j).ev sc e ⟨loc, ah, hs⟩ = some (c, r, ⟨loc', ah', hs'⟩)) (hc : Ands c) : EvOK K (b + j) sc e loc ah r ah' :=
  ((snd_mk OK (OrS.ok K b) j).1 _ _ _ _ _ _ h hc.all).2
end Mine
end

section
set_option maxRecDepth 100000
set_option autoImplicit false
set_option tactic.hygienic false
namespace Mine
open PySem PySem.W PySem.Calls PyProof.Rows

/-- the top's run over a tree of objects -/
noncomputable def runT (ok : Thread → Bool) (stp : SharedT → Thread → Option (SharedT × Thread)) : Nat → SharedT → Thread → Option SharedT
  | 0, _, _ => none
  | n + 1, s, t => match through t with
    | true => some s
    | false => match ok t with
      | false => none
      | true => match stp s t with
        | some (s', t') => runT ok stp n s' t'
        | none => none
theorem runT_spec {tb : String → Option Builtin} {p : Program} {w : World} {n₀ : Nat} {ann : Option Value} : ∀ {n : Nat} {s s' : SharedT} {t : Thread},
    runT (stepOk n₀ ann) (stepT (denote tb) p w) n s t = some s' → topRun tb p w n₀ ann n s.abs t = some s'.abs
  | 0, _, _, _, h => by cases h
  | n + 1, s, s', t, h => by
    unfold runT at h
    unfold topRun
    cases he : through t with
    | true => rw [he] at h; cases h; rfl
    | false =>
      rw [he] at h
      cases hk : stepOk n₀ ann t with
      | false => rw [hk] at h; cases h
      | true =>
        rw [hk] at h
        cases hs : stepT (denote tb) p w s t with
        | none => rw [hs] at h; cases h
        | some r => obtain ⟨s₂, t₂⟩ := r; rw [hs] at h; dsimp only; rw [stepT_spec hs]; exact runT_spec h

/-- the tree of the objects that the opening leaves -/
noncomputable def bootT (P : Params) : BT := (((((((((((BT.nil.ins 0 (boot_o_0 P)).ins 1 (boot_o_1 P)).ins 2 (boot_o_2 P)).ins 3 (boot_o_3 P)).ins 4 (boot_o_4 P)).ins 5 (boot_o_5 P)).ins 6 (boot_o_6 P)).ins 7 (boot_o_7 P)).ins 8 (boot_o_8 P)).ins 9 (boot_o_9 P)).ins 10 (boot_o_10 P))
theorem bootT_abs (P : Params) : absHeap (bootT P) 11 (boot_heap P).life = boot_heap P := by
  kernel_rfl
noncomputable abbrev pw := PySem.Challenge.pw_nz0110_01
noncomputable def s0T (P : Params) (os : OsState) : SharedT := ⟨bootT P, 11, (boot_heap P).life, Array.mk [], boot_drawn, boot_toks, os⟩
end Mine
end

section
set_option maxRecDepth 100000
set_option autoImplicit false
namespace Mine
open PySem PySem.W PySem.Calls PyProof.Rows

/-- the top's statements, a class's -/
noncomputable def topAt (k : Nat) : Stmt := (pw.main.body[k]?).getD (.Pass default)
noncomputable def clsBody : Stmt → List Stmt
  | .ClassDef _ _ _ b _ _ _ _ _ _ _ => b
  | _ => []
noncomputable def methAt (k i : Nat) : Stmt := ((clsBody (topAt k))[i]?).getD (.Pass default)
noncomputable def fiOf (s : Stmt) (ds : List GV) : FI := match s with
  | .FunctionDef _ a b _ _ _ sc _ _ _ => ⟨a.args.map (·.arg), ds, b, sc⟩
  | _ => ⟨[], [], [], { kind := .function, names := [], isGenerator := false, isCoroutine := false, more := [] }⟩

noncomputable def fnsP : List (Nat × FI) := [
  (28, fiOf (topAt 2) []),
  (35, fiOf (topAt 3) []),
  (81, fiOf (methAt 8 0) []),
  (165, fiOf (topAt 11) []),
  (172, fiOf (topAt 12) []),
  (179, fiOf (topAt 13) []),
  (186, fiOf (topAt 14) []),
  (200, fiOf (topAt 16) []),
  (207, fiOf (topAt 17) []),
  (214, fiOf (topAt 18) []),
  (228, fiOf (topAt 21) []),
  (235, fiOf (topAt 22) []),
  (249, fiOf (methAt 24 0) []),
  (256, fiOf (methAt 24 1) []),
  (263, fiOf (methAt 24 2) []),
  (270, fiOf (methAt 24 3) []),
  (277, fiOf (methAt 24 4) []),
  (354, fiOf (methAt 26 0) []),
  (363, fiOf (methAt 26 1) [.str "", .str "", .tup [], .str ""]),
  (372, fiOf (methAt 26 2) [.str "html", .tup []]),
  (379, fiOf (methAt 26 3) []),
  (386, fiOf (methAt 26 4) []),
  (401, fiOf (methAt 26 6) [.int (-1)]),
  (415, fiOf (methAt 26 8) []),
  (436, fiOf (methAt 26 11) []),
  (464, fiOf (topAt 27) []),
  (479, fiOf (methAt 29 0) [.bool false]),
  (486, fiOf (methAt 29 1) []),
  (493, fiOf (methAt 29 2) []),
  (500, fiOf (methAt 29 3) []),
  (507, fiOf (methAt 29 4) []),
  (514, fiOf (methAt 29 5) []),
  (521, fiOf (methAt 29 6) []),
  (528, fiOf (methAt 29 7) []),
  (542, fiOf (topAt 30) []),
  (549, fiOf (topAt 31) []),
  (556, fiOf (topAt 33) []),
  (563, fiOf (topAt 34) []),
  (578, fiOf (topAt 37) [.int (-1)]),
  (585, fiOf (topAt 38) []),
  (593, fiOf (topAt 39) [.int (-1)]),
  (601, fiOf (topAt 40) [.str "html"]),
  (610, fiOf (topAt 41) [.tup [], .str "html"]),
  (617, fiOf (topAt 42) []),
  (624, fiOf (topAt 43) []),
  (631, fiOf (topAt 44) []),
  (638, fiOf (topAt 46) []),
  (645, fiOf (topAt 47) []),
  (659, fiOf (methAt 49 0) []),
  (694, fiOf (methAt 49 5) []),
  (708, fiOf (topAt 51) []),
  (715, fiOf (topAt 52) []),
  (722, fiOf (topAt 53) []),
  (729, fiOf (topAt 54) []),
  (736, fiOf (topAt 55) []),
  (743, fiOf (topAt 56) []),
  (750, fiOf (topAt 57) []),
  (757, fiOf (topAt 58) []),
  (764, fiOf (topAt 59) []),
  (771, fiOf (topAt 60) []),
  (778, fiOf (topAt 61) []),
  (785, fiOf (topAt 63) []),
  (792, fiOf (topAt 64) []),
  (799, fiOf (topAt 65) []),
  (806, fiOf (topAt 67) []),
  (813, fiOf (topAt 68) []),
  (820, fiOf (topAt 69) []),
  (827, fiOf (topAt 70) []),
  (834, fiOf (topAt 71) []),
  (841, fiOf (topAt 72) []),
  (848, fiOf (topAt 73) []),
  (855, fiOf (topAt 74) []),
  (862, fiOf (topAt 75) []),
  (869, fiOf (topAt 76) []),
  (876, fiOf (topAt 78) []),
  (890, fiOf (methAt 79 0) []),
  (897, fiOf (methAt 79 1) []),
  (904, fiOf (methAt 79 2) []),
  (911, fiOf (methAt 79 3) []),
  (933, fiOf (methAt 81 0) [.str "data", .str ""]),
  (940, fiOf (methAt 81 1) []),
  (947, fiOf (methAt 81 2) []),
  (954, fiOf (methAt 81 3) []),
  (961, fiOf (methAt 81 4) []),
  (968, fiOf (methAt 81 5) []),
  (975, fiOf (methAt 81 6) []),
  (982, fiOf (methAt 81 7) []),
  (989, fiOf (methAt 81 8) []),
  (996, fiOf (methAt 81 9) []),
  (1003, fiOf (methAt 81 10) []),
  (1010, fiOf (methAt 81 11) []),
  (1017, fiOf (methAt 81 12) []),
  (1025, fiOf (methAt 81 13) [.bool false]),
  (1032, fiOf (methAt 81 14) []),
  (1039, fiOf (methAt 81 15) []),
  (1060, fiOf (methAt 81 18) []),
  (1067, fiOf (methAt 81 19) []),
  (1088, fiOf (topAt 83) []),
  (1095, fiOf (topAt 84) []),
  (1102, fiOf (topAt 85) []),
  (1109, fiOf (topAt 86) []),
  (1116, fiOf (topAt 87) []),
  (1123, fiOf (topAt 88) []),
  (1128, fiOf (topAt 89) []),
  (1135, fiOf (topAt 90) [])]
noncomputable def clsP : List (Nat × CI) := [
  (147, ⟨some 81, [], [⟨#[116, 114, 101, 101]⟩, ⟨#[105, 116, 101, 109, 115]⟩]⟩),
  (336, ⟨some 249, [(⟨#[112, 117, 115, 104]⟩, 256), (⟨#[112, 111, 112]⟩, 263), (⟨#[99, 117, 114, 114, 101, 110, 116]⟩, 270), (⟨#[109, 97, 110, 121]⟩, 277)], [⟨#[116, 114, 101, 101]⟩, ⟨#[105, 116, 101, 109, 115]⟩]⟩),
  (453, ⟨some 354, [(⟨#[97, 100, 100]⟩, 363), (⟨#[101, 108, 101, 109, 101, 110, 116]⟩, 372), (⟨#[116, 101, 120, 116]⟩, 379), (⟨#[99, 111, 109, 109, 101, 110, 116]⟩, 386), (⟨#[105, 110, 115, 101, 114, 116]⟩, 401), (⟨#[114, 101, 109, 111, 118, 101]⟩, 415), (⟨#[108, 97, 115, 116]⟩, 436)], [⟨#[107, 105, 110, 100, 115]⟩, ⟨#[115, 112, 97, 99, 101, 115]⟩, ⟨#[110, 97, 109, 101, 115]⟩, ⟨#[97, 116, 116, 114, 115]⟩, ⟨#[116, 101, 120, 116, 115]⟩, ⟨#[112, 97, 114, 101, 110, 116, 115]⟩, ⟨#[99, 104, 105, 108, 100, 114, 101, 110]⟩, ⟨#[99, 111, 110, 116, 101, 110, 116, 115]⟩]⟩),
  (531, ⟨some 479, [(⟨#[101, 114, 114, 111, 114]⟩, 486), (⟨#[116, 111]⟩, 493), (⟨#[117, 115, 101]⟩, 500), (⟨#[112, 114, 111, 99, 101, 115, 115]⟩, 507), (⟨#[102, 101, 101, 100]⟩, 514), (⟨#[97, 100, 106, 117, 115, 116, 101, 100]⟩, 521), (⟨#[105, 115, 95, 102, 111, 114, 101, 105, 103, 110]⟩, 528)], [⟨#[114, 117, 108, 101, 115]⟩, ⟨#[116, 114, 101, 101]⟩, ⟨#[115, 116, 97, 99, 107]⟩, ⟨#[102, 111, 114, 109, 97, 116, 116, 105, 110, 103]⟩, ⟨#[109, 111, 100, 101]⟩, ⟨#[111, 114, 105, 103, 105, 110, 97, 108]⟩, ⟨#[109, 111, 100, 101, 115]⟩, ⟨#[104, 101, 97, 100]⟩, ⟨#[102, 111, 114, 109]⟩, ⟨#[111, 119, 110, 101, 114, 115]⟩, ⟨#[105, 115, 95, 102, 114, 97, 109, 101, 115, 101, 116, 95, 111, 107]⟩, ⟨#[105, 115, 95, 115, 99, 114, 105, 112, 116, 105, 110, 103]⟩, ⟨#[105, 115, 95, 102, 111, 115, 116, 101, 114]⟩, ⟨#[99, 111, 110, 116, 101, 120, 116]⟩, ⟨#[113, 117, 105, 114, 107, 115]⟩, ⟨#[101, 114, 114, 111, 114, 115]⟩, ⟨#[112, 101, 110, 100, 105, 110, 103]⟩, ⟨#[119, 105, 115, 104]⟩, ⟨#[105, 115, 95, 115, 107, 105, 112, 112, 105, 110, 103]⟩, ⟨#[105, 115, 95, 97, 99, 107, 110, 111, 119, 108, 101, 100, 103, 101, 100]⟩, ⟨#[105, 115, 95, 100, 111, 110, 101]⟩]⟩),
  (697, ⟨some 659, [(⟨#[116, 111, 107, 101, 110]⟩, 694)], [⟨#[107, 105, 110, 100]⟩, ⟨#[110, 97, 109, 101]⟩, ⟨#[116, 101, 120, 116]⟩, ⟨#[112, 117, 98, 108, 105, 99]⟩, ⟨#[115, 121, 115, 116, 101, 109]⟩, ⟨#[105, 115, 95, 113, 117, 105, 114, 107, 115]⟩, ⟨#[105, 115, 95, 99, 108, 111, 115, 105, 110, 103]⟩, ⟨#[97, 116, 116, 114, 115]⟩]⟩),
  (914, ⟨some 890, [(⟨#[102, 101, 101, 100]⟩, 897), (⟨#[101, 110, 100]⟩, 904), (⟨#[109, 97, 110, 121]⟩, 911)], [⟨#[115, 105, 103, 110, 115]⟩, ⟨#[105, 115, 95, 99, 108, 111, 115, 101, 100]⟩, ⟨#[105, 115, 95, 114, 101, 116, 117, 114, 110]⟩, ⟨#[101, 114, 114, 111, 114, 115]⟩]⟩),
  (1077, ⟨some 933, [(⟨#[102, 101, 101, 100]⟩, 940), (⟨#[101, 110, 100]⟩, 947), (⟨#[110, 101, 120, 116]⟩, 954), (⟨#[116, 111]⟩, 961), (⟨#[97, 103, 97, 105, 110]⟩, 968), (⟨#[101, 114, 114, 111, 114]⟩, 975), (⟨#[101, 109, 105, 116]⟩, 982), (⟨#[101, 109, 105, 116, 95, 115, 105, 103, 110]⟩, 989), (⟨#[101, 109, 105, 116, 95, 116, 101, 120, 116]⟩, 996), (⟨#[101, 109, 105, 116, 95, 100, 114, 97, 102, 116]⟩, 1003), (⟨#[101, 109, 105, 116, 95, 101, 111, 102]⟩, 1010), (⟨#[105, 115, 95, 97, 112, 116]⟩, 1017), (⟨#[108, 111, 111, 107, 115]⟩, 1025), (⟨#[116, 97, 107, 101]⟩, 1032), (⟨#[119, 97, 105, 116]⟩, 1039), (⟨#[115, 116, 101, 112]⟩, 1060), (⟨#[105, 115, 95, 114, 101, 97, 100, 121]⟩, 1067)], [⟨#[115, 116, 97, 116, 101, 115]⟩, ⟨#[115, 116, 114, 101, 97, 109]⟩, ⟨#[97, 116]⟩, ⟨#[115, 116, 97, 116, 101]⟩, ⟨#[98, 97, 99, 107]⟩, ⟨#[111, 117, 116]⟩, ⟨#[101, 114, 114, 111, 114, 115]⟩, ⟨#[100, 114, 97, 102, 116]⟩, ⟨#[98, 117, 102, 102, 101, 114]⟩, ⟨#[99, 111, 100, 101]⟩, ⟨#[108, 97, 115, 116]⟩, ⟨#[105, 115, 95, 102, 111, 114, 101, 105, 103, 110]⟩, ⟨#[105, 115, 95, 119, 97, 105, 116, 105, 110, 103]⟩, ⟨#[105, 115, 95, 100, 111, 110, 101]⟩]⟩)]
noncomputable def globP : List (Str × GV) := [
  (⟨#[104, 97, 110, 100, 95, 111, 118, 101, 114]⟩, .fn 28),
  (⟨#[100, 114, 105, 118, 101]⟩, .fn 35),
  (⟨#[70, 111, 114, 109, 97, 116, 116, 105, 110, 103]⟩, .cls 147),
  (⟨#[105, 115, 95, 98, 108, 97, 110, 107]⟩, .fn 165),
  (⟨#[105, 115, 95, 117, 112, 112, 101, 114]⟩, .fn 172),
  (⟨#[105, 115, 95, 108, 101, 116, 116, 101, 114]⟩, .fn 179),
  (⟨#[108, 111, 119, 101, 114]⟩, .fn 186),
  (⟨#[105, 115, 95, 115, 117, 114, 114, 111, 103, 97, 116, 101]⟩, .fn 200),
  (⟨#[105, 115, 95, 110, 111, 110, 99, 104, 97, 114, 97, 99, 116, 101, 114]⟩, .fn 207),
  (⟨#[105, 115, 95, 99, 111, 110, 116, 114, 111, 108]⟩, .fn 214),
  (⟨#[105, 115, 95, 109, 97, 116, 104, 95, 112, 111, 105, 110, 116]⟩, .fn 228),
  (⟨#[105, 115, 95, 104, 116, 109, 108, 95, 112, 111, 105, 110, 116]⟩, .fn 235),
  (⟨#[79, 112, 101, 110, 83, 116, 97, 99, 107]⟩, .cls 336),
  (⟨#[84, 114, 101, 101]⟩, .cls 453),
  (⟨#[97, 98, 111, 118, 101]⟩, .fn 464),
  (⟨#[66, 117, 105, 108, 100, 101, 114]⟩, .cls 531),
  (⟨#[105, 115, 95, 104, 116, 109, 108, 95, 116, 117, 114, 110]⟩, .fn 542),
  (⟨#[102, 105, 110, 105, 115, 104]⟩, .fn 549),
  (⟨#[97, 116, 116, 114, 115, 95, 105, 110, 95, 111, 114, 100, 101, 114]⟩, .fn 556),
  (⟨#[112, 108, 97, 105, 110]⟩, .fn 563),
  (⟨#[112, 108, 97, 99, 101, 95, 102, 111, 114]⟩, .fn 578),
  (⟨#[105, 110, 115, 101, 114, 116, 95, 115, 105, 103, 110]⟩, .fn 585),
  (⟨#[105, 110, 115, 101, 114, 116, 95, 99, 111, 109, 109, 101, 110, 116]⟩, .fn 593),
  (⟨#[109, 97, 107, 101]⟩, .fn 601),
  (⟨#[105, 110, 115, 101, 114, 116, 95, 101, 108, 101, 109, 101, 110, 116]⟩, .fn 610),
  (⟨#[105, 110, 115, 101, 114, 116, 95, 116, 111, 107, 101, 110]⟩, .fn 617),
  (⟨#[97, 115, 115, 111, 99, 105, 97, 116, 101]⟩, .fn 624),
  (⟨#[115, 116, 97, 114, 116, 95, 114, 97, 119]⟩, .fn 631),
  (⟨#[108, 101, 97, 118, 101]⟩, .fn 638),
  (⟨#[116, 101, 120, 116, 95, 109, 111, 100, 101]⟩, .fn 645),
  (⟨#[68, 114, 97, 102, 116]⟩, .cls 697),
  (⟨#[111, 112, 101, 110, 95, 99, 111, 109, 109, 101, 110, 116]⟩, .fn 708),
  (⟨#[99, 108, 111, 115, 101, 95, 99, 111, 109, 109, 101, 110, 116]⟩, .fn 715),
  (⟨#[110, 117, 108, 108, 95, 105, 110, 95, 99, 111, 109, 109, 101, 110, 116]⟩, .fn 722),
  (⟨#[105, 115, 95, 109, 97, 114, 107, 95, 117, 110, 116, 111, 108, 100]⟩, .fn 729),
  (⟨#[111, 112, 101, 110, 95, 99, 100, 97, 116, 97]⟩, .fn 736),
  (⟨#[109, 97, 114, 107, 117, 112, 95, 100, 101, 99, 108, 97, 114, 97, 116, 105, 111, 110, 95, 111, 112, 101, 110, 95, 115, 116, 97, 116, 101]⟩, .fn 743),
  (⟨#[98, 111, 103, 117, 115, 95, 99, 111, 109, 109, 101, 110, 116, 95, 115, 116, 97, 116, 101]⟩, .fn 750),
  (⟨#[99, 100, 97, 116, 97, 95, 115, 101, 99, 116, 105, 111, 110, 95, 115, 116, 97, 116, 101]⟩, .fn 757),
  (⟨#[99, 100, 97, 116, 97, 95, 115, 101, 99, 116, 105, 111, 110, 95, 98, 114, 97, 99, 107, 101, 116, 95, 115, 116, 97, 116, 101]⟩, .fn 764),
  (⟨#[99, 100, 97, 116, 97, 95, 115, 101, 99, 116, 105, 111, 110, 95, 101, 110, 100, 95, 115, 116, 97, 116, 101]⟩, .fn 771),
  (⟨#[99, 100, 97, 116, 97, 95, 115, 116, 97, 116, 101, 115]⟩, .fn 778),
  (⟨#[116, 97, 103, 95, 111, 112, 101, 110, 95, 115, 116, 97, 116, 101]⟩, .fn 785),
  (⟨#[101, 110, 100, 95, 116, 97, 103, 95, 111, 112, 101, 110, 95, 115, 116, 97, 116, 101]⟩, .fn 792),
  (⟨#[116, 97, 103, 95, 110, 97, 109, 101, 95, 115, 116, 97, 116, 101]⟩, .fn 799),
  (⟨#[100, 97, 116, 97, 95, 115, 116, 97, 116, 101]⟩, .fn 806),
  (⟨#[104, 101, 108, 100, 95, 116, 101, 120, 116]⟩, .fn 813),
  (⟨#[108, 101, 115, 115, 95, 116, 104, 97, 110]⟩, .fn 820),
  (⟨#[101, 110, 100, 95, 116, 97, 103, 95, 111, 112, 101, 110]⟩, .fn 827),
  (⟨#[101, 110, 100, 95, 116, 97, 103, 95, 110, 97, 109, 101]⟩, .fn 834),
  (⟨#[114, 99, 100, 97, 116, 97, 95, 115, 116, 97, 116, 101]⟩, .fn 841),
  (⟨#[114, 99, 100, 97, 116, 97, 95, 108, 101, 115, 115, 95, 116, 104, 97, 110]⟩, .fn 848),
  (⟨#[114, 99, 100, 97, 116, 97, 95, 101, 110, 100, 95, 116, 97, 103, 95, 111, 112, 101, 110]⟩, .fn 855),
  (⟨#[114, 99, 100, 97, 116, 97, 95, 101, 110, 100, 95, 116, 97, 103, 95, 110, 97, 109, 101]⟩, .fn 862),
  (⟨#[114, 99, 100, 97, 116, 97, 95, 115, 116, 97, 116, 101, 115]⟩, .fn 869),
  (⟨#[105, 110, 112, 117, 116, 95, 101, 114, 114, 111, 114]⟩, .fn 876),
  (⟨#[83, 116, 114, 101, 97, 109]⟩, .cls 914),
  (⟨#[84, 111, 107, 101, 110, 105, 122, 101, 114]⟩, .cls 1077),
  (⟨#[95, 108, 97, 119, 95, 115, 116, 97, 116, 101, 115]⟩, .fn 1088),
  (⟨#[95, 108, 97, 119, 95, 98, 111, 100, 121]⟩, .fn 1095),
  (⟨#[95, 108, 97, 119, 95, 112, 97, 114, 116, 115]⟩, .fn 1102),
  (⟨#[95, 108, 97, 119, 95, 112, 117, 116]⟩, .fn 1109),
  (⟨#[95, 108, 97, 119, 95, 111, 112, 101, 110]⟩, .fn 1116),
  (⟨#[95, 108, 97, 119, 95, 114, 101, 97, 100, 105, 110, 103]⟩, .fn 1123),
  (⟨#[95, 108, 97, 119, 95, 116, 117, 112, 108, 101]⟩, .fn 1128)]
noncomputable def bltP : List (Str × GV) := [(⟨#[108, 101, 110]⟩, .bi "len"), (⟨#[111, 114, 100]⟩, .bi "ord"), (⟨#[99, 104, 114]⟩, .bi "chr"), (⟨#[114, 97, 110, 103, 101]⟩, .ty "range"), (⟨#[108, 105, 115, 116]⟩, .ty "list"), (⟨#[116, 117, 112, 108, 101]⟩, .ty "tuple"), (⟨#[115, 111, 114, 116, 101, 100]⟩, .bi "sorted")]
noncomputable def PP : Pr := ⟨fnsP, clsP, globP ++ bltP⟩
end Mine
end

section
set_option maxRecDepth 100000
set_option autoImplicit false
set_option linter.unusedVariables false
namespace Mine
open PySem PySem.W PySem.Calls PyProof.Rows

/-- what one list of names says, the other says too -/
noncomputable def LocLe : Loc → Loc → Prop
  | [], _ => True
  | p :: r, l => l.lookup p.1 = some p.2 ∧ LocLe r l
theorem LocLe.look : ∀ {a b : Loc}, LocLe a b → ∀ {x : Str} {g : GV}, a.lookup x = some g → b.lookup x = some g
  | [], _, _, _, _, e => by cases e
  | (y, u) :: r, b, h, x, g, e => by
    rw [List.lookup_cons] at e
    split at e
    · rename_i q; cases e; rw [beq_iff_eq.mp q]; exact h.1
    · exact LocLe.look h.2 e
section
variable {K : Frag} {n : Nat} {sc : Scope}
theorem Li.loc {P : Params} {h₀ : Heap} {L : Addr} {loc loc2 : Loc} {ah : AH} {φ : Phi} {N : Led} {m : Str → Option Value} {h : Heap} (I : Li K P h₀ L loc ah φ N m h) (w : LocLe loc2 loc) : Li K P h₀ L loc2 ah φ N m h :=
  ⟨I.fr, I.nw, I.hr, fun x g e => I.lc x g (w.look e)⟩
theorem ExOK.post {ss : List Stmt} {loc loc' loc2 : Loc} {ah ah' : AH} {fl : Fl} (h : ExOK K n sc ss loc ah fl loc' ah') (w : LocLe loc2 loc') : ExOK K n sc ss loc ah fl loc2 ah' :=
  fun C I k => h C I fun φ' N' m' f h' tk I' X' hf => k _ _ _ _ _ _ (I'.loc w) X' hf
theorem StOK.post {ss : Stmt} {loc loc' loc2 : Loc} {ah ah' : AH} {fl : Fl} (h : StOK K n sc ss loc ah fl loc' ah') (w : LocLe loc2 loc') : StOK K n sc ss loc ah fl loc2 ah' :=
  fun C I k => h C I fun φ' N' m' f h' tk I' X' hf => k _ _ _ _ _ _ (I'.loc w) X' hf
theorem StOK.pre {ss : Stmt} {loc loc' loc0 : Loc} {ah ah' : AH} {fl : Fl} (h : StOK K n sc ss loc0 ah fl loc' ah') (w : LocLe loc0 loc) : StOK K n sc ss loc ah fl loc' ah' :=
  fun C I k => h C (I.loc w) k
end

/-! ## what is no longer needed is forgotten -/
mutual
noncomputable def gIn (t : AH) : GV → Prop
  | .obj r => ∃ o, t.get r = some o
  | .tup xs => gsIn t xs
  | _ => True
noncomputable def gsIn (t : AH) : List GV → Prop
  | [] => True
  | x :: xs => gIn t x ∧ gsIn t xs
end
noncomputable def fsIn (t : AH) : List (Str × GV) → Prop
  | [] => True
  | x :: xs => gIn t x.2 ∧ fsIn t xs
noncomputable def oIn (t : AH) : AO → Prop
  | .list xs => gsIn t xs
  | .inst _ fs => fsIn t fs
  | .dict ks => fsIn t ks
theorem gsIn_of {t : AH} : ∀ {xs : List GV}, (∀ g ∈ xs, gIn t g) → gsIn t xs
  | [], _ => trivial
  | x :: xs, h => ⟨h x (.head _), gsIn_of fun g hg => h g (.tail _ hg)⟩
section
variable {K : Frag} {P : Params} {φ φ2 : Phi} {N : Led} {t : AH}
mutual
theorem V.cut (e : ∀ r o, t.get r = some o → φ2.get r = φ.get r) : ∀ (g : GV) (v : Value), gIn t g → V K φ N g v → V K φ2 N g v
  | .obj r, v, i, h => by
    simp only [V] at h ⊢
    obtain ⟨p, a, b⟩ := h
    simp only [gIn] at i
    obtain ⟨o, i⟩ := i
    exact ⟨p, (e r o i).trans a, b⟩
  | .tup xs, v, i, h => by
    simp only [V] at h ⊢
    simp only [gIn] at i
    obtain ⟨a, vs, rfl, hm, hv⟩ := h
    exact ⟨a, vs, rfl, hm, Vs.cut e xs vs i hv⟩
  | .none, _, _, h | .bool _, _, _, h | .int _, _, _, h | .str _, _, _, h | .fn _, _, _, h | .cls _, _, _, h | .bi _, _, _, h | .ty _, _, _, h => by
    simp only [V] at h ⊢; exact h
theorem Vs.cut (e : ∀ r o, t.get r = some o → φ2.get r = φ.get r) : ∀ (g : List GV) (v : List Value), gsIn t g → Vs K φ N g v → Vs K φ2 N g v
  | [], v, _, h => by simp only [Vs] at h ⊢; exact h
  | x :: xs, v, i, h => by
    simp only [Vs] at h ⊢
    simp only [gsIn] at i
    obtain ⟨a, r, rfl, h1, h2⟩ := h
    exact ⟨a, r, rfl, V.cut e x a i.1 h1, Vs.cut e xs r i.2 h2⟩
end
theorem Es.cut (e : ∀ r o, t.get r = some o → φ2.get r = φ.get r) : ∀ (g : List (Str × GV)) (v : List DictEntry), fsIn t g → Es K P φ N g v → Es K P φ2 N g v
  | [], v, _, h => by simp only [Es] at h ⊢; exact h
  | x :: xs, v, i, h => by
    simp only [Es] at h ⊢
    simp only [fsIn] at i
    obtain ⟨a, r, rfl, h1, h2, h3, h4⟩ := h
    exact ⟨a, r, rfl, h1, h2, V.cut e _ _ i.1 h3, Es.cut e xs r i.2 h4⟩
theorem OR.cut (e : ∀ r o, t.get r = some o → φ2.get r = φ.get r) {o : AO} {p : Addr × Addr} (i : oIn t o) (h : OR K P φ N o p) : OR K P φ2 N o p := by
  cases o with
  | list xs => obtain ⟨vs, n, a, b⟩ := h; exact ⟨vs, n, a, Vs.cut e _ _ i b⟩
  | dict ks => obtain ⟨es, n, a, b⟩ := h; exact ⟨es, n, a, Es.cut e _ _ i b⟩
  | inst C fs => obtain ⟨es, n, a, b, c⟩ := h; exact ⟨es, n, a, b, Es.cut e _ _ i c⟩
end
structure Cut (t ah : AH) : Prop where
  c : t.c <+: ah.c
  d : t.d <+: ah.d
  n : t.n <+: ah.n
theorem Cut.get {t ah : AH} (h : Cut t ah) {r : Rf} {o : AO} (e : t.get r = some o) : ah.get r = some o := by
  cases r with
  | c i => exact prefix_get h.c e
  | d i => exact prefix_get h.d e
  | n i => exact prefix_get h.n e
noncomputable def cutP (φ : Phi) (t : AH) : Phi := ⟨φ.c.take t.c.length, φ.d.take t.d.length, φ.n.take t.n.length⟩
theorem take_get {α : Type} {l : List α} {k i : Nat} (h : i < k) : (l.take k)[i]? = l[i]? := by
  rw [List.getElem?_take, if_pos h]
theorem lt_get {α : Type} {l : List α} {i : Nat} {x : α} (h : l[i]? = some x) : i < l.length := by
  rcases Nat.lt_or_ge i l.length with q | q
  · exact q
  · rw [List.getElem?_eq_none q] at h; cases h
theorem cutP_get {φ : Phi} {t : AH} (r : Rf) (o : AO) (h : t.get r = some o) : (cutP φ t).get r = φ.get r := by
  cases r with
  | c i => exact take_get (lt_get h)
  | d i => exact take_get (lt_get h)
  | n i => exact take_get (lt_get h)
theorem footL_cut : ∀ {φ : List (Addr × Addr)} {a t : List AO}, t <+: a → (footL (φ.take t.length) t).Sublist (footL φ a)
  | [], a, t, _ => by rw [List.take_nil]; exact List.nil_sublist _
  | p :: φ, a, [], _ => List.nil_sublist _
  | p :: φ, [], o :: t, h => by have := h.length_le; simp at this
  | p :: φ, o' :: a, o :: t, h => by
    rw [List.cons_prefix_cons] at h
    obtain ⟨rfl, h⟩ := h
    show (footO o p ++ footL (φ.take t.length) t).Sublist (footO o p ++ footL φ a)
    exact List.Sublist.append (List.Sublist.refl _) (footL_cut h)
theorem foot_cut {φ : Phi} {t ah : AH} (h : Cut t ah) : (foot (cutP φ t) t).Sublist (foot φ ah) :=
  List.Sublist.append (footL_cut h.c) (List.Sublist.append (footL_cut h.d) (footL_cut h.n))
theorem HR.cut {K : Frag} {P : Params} {φ : Phi} {t ah : AH} {N : Led} (H : HR K P φ ah N) (h : Cut t ah) (i : ∀ r o, t.get r = some o → oIn t o) : HR K P (cutP φ t) t N where
  lc := by show (φ.c.take _).length = _; rw [List.length_take, H.lc]; exact Nat.min_eq_left h.c.length_le
  ld := by show (φ.d.take _).length = _; rw [List.length_take, H.ld]; exact Nat.min_eq_left h.d.length_le
  ln := by show (φ.n.take _).length = _; rw [List.length_take, H.ln]; exact Nat.min_eq_left h.n.length_le
  nd := H.nd
  ft := (foot_cut h).nodup H.ft
  ob r o p a b := OR.cut (t := t) cutP_get (i r o a) (H.ob r o p (h.get a) ((cutP_get r o a).symm.trans b))
  sz r o a := H.sz r o (h.get a)
theorem take_pre {α : Type} {a b : List α} {k : Nat} (h : a <+: b) (q : a.length ≤ k) : a <+: b.take k := by
  obtain ⟨c, rfl⟩ := h
  rw [List.take_append, List.take_of_length_le q]
  exact List.prefix_append _ _
theorem ExOK.forget {K : Frag} {n : Nat} {sc : Scope} {ss : List Stmt} {loc loc1 loc2 : Loc} {ah ah1 t : AH} (h : ExOK K n sc ss loc ah .nxt loc1 ah1) (u : Cut t ah1) (lc : ah.c.length ≤ t.c.length) (ld : ah.d.length ≤ t.d.length) (ln : ah.n.length ≤ t.n.length)
    (i : ∀ r o, t.get r = some o → oIn t o) (w : LocLe loc2 loc1) (wi : ∀ x g, loc2.lookup x = some g → gIn t g) : ExOK K n sc ss loc ah .nxt loc2 t := by
  intro prog w' A E s h₀ env φ N m Q C I k
  refine h C I fun φ' N' m' f h' tk I' X' hf => ?_
  have H := I'.hr.cut u i
  refine k (cutP φ' t) N' m' f h' tk ⟨I'.fr, I'.nw, H, fun x g e => ?_⟩ ⟨⟨take_pre X'.pre.c (by rw [I.hr.lc]; exact lc), take_pre X'.pre.d (by rw [I.hr.ld]; exact ld), take_pre X'.pre.n (by rw [I.hr.ln]; exact ln)⟩, X'.keep, fun a ha => X'.new a ((foot_cut u).subset ha), X'.old⟩ hf
  obtain ⟨v, a, b⟩ := I'.lc x g (w.look e)
  exact ⟨v, a, V.cut (t := t) cutP_get _ _ (wi x g e) b⟩
end Mine
end

section
set_option maxRecDepth 100000
set_option autoImplicit false
namespace Mine
open PySem PySem.W PySem.Calls PyProof.Rows

/-! ## what a fragment shows of the program -/
noncomputable def strB (s : Str) (v : Value) : Bool := match v with
  | .str t _ => s == t
  | _ => false
noncomputable def intB (i : Int) (v : Value) : Bool := match v with
  | .int j _ => i == j
  | _ => false
noncomputable def boolB (b : Bool) (v : Value) : Bool := match v with
  | .bool c => b == c
  | _ => false
noncomputable def isTy (v : Value) : Bool := match v with
  | .type n => decide (n = "tuple")
  | _ => false
noncomputable def emptyS (d : Data) : Bool := match d with
  | .seq vs _ => vs.toList.isEmpty
  | _ => false
noncomputable def objT (o : Option Obj) : Bool := match o with
  | some o => isTy o.cls && emptyS o.data
  | none => false
noncomputable def tupB (K : Frag) (v : Value) : Bool := match v with
  | .ref a => objT (K.lookup a)
  | _ => false
noncomputable def vOK (K : Frag) (g : GV) (v : Value) : Bool := match g with
  | .str s => strB s v
  | .int i => intB i v
  | .bool b => boolB b v
  | .tup xs => xs.isEmpty && tupB K v
  | _ => false
noncomputable def vsOK (K : Frag) : List GV → List Value → Bool
  | [], [] => true
  | [], _ :: _ => false
  | _ :: _, [] => false
  | g :: gs, v :: vs => vOK K g v && vsOK K gs vs
noncomputable def dflD (K : Frag) (ds : List GV) (d : Data) : Bool := match d with
  | .seq vs _ => vsOK K ds vs.toList
  | _ => false
noncomputable def dflO (K : Frag) (ds : List GV) (o : Option Obj) : Bool := match o with
  | some o => dflD K ds o.data
  | none => false
noncomputable def dflOK (K : Frag) (ds : List GV) (v : Value) : Bool := match v with
  | .none => ds.isEmpty
  | .ref t => dflO K ds (K.lookup t)
  | _ => false
noncomputable def fnD (o : Option Obj) : Option FuncData := match o with
  | some o => match o.data with
    | .func fd => some fd
    | _ => none
  | none => none
noncomputable def fnObs (K : Frag) (p : Nat × FI) : Option (FuncBody × Scope × List Str) × Bool := match fnD (K.lookup p.1) with
  | some fd => (some (fd.body, fd.scope, fd.params.args.map (·.arg)),
      fd.params.posonlyargs.isEmpty && fd.params.vararg.isNone && fd.params.kwonlyargs.isEmpty && fd.params.kwarg.isNone &&
      Nat.beq fd.globals mainGlobals && fd.closure.isEmpty && Nat.beq fd.builtins builtinsNs && codeIn K fd.code fd.qualname && dflOK K p.2.ds fd.defaults && keepIn K (.ref p.1))
  | none => (none, false)
noncomputable def fnExp (p : Nat × FI) : Option (FuncBody × Scope × List Str) × Bool := (some (.stmts p.2.body, p.2.scope, p.2.ns), true)
noncomputable def clObs (K : Frag) (p : Nat × CI) : Bool :=
  plainGet K p.1 Str.empty && hasDictIn K p.1 && (p.2.flds.all fun x => findIn K (.ref p.1) x == some none) && findIn K (.ref p.1) "__setattr__" == some (some (.builtin "object.__setattr__")) && plainOver K p.1 &&
  (p.2.meths.all fun m => findIn K (.ref p.1) m.1 == some (some (.ref m.2)) && isFn K (.ref m.2)) && makesIn K p.1 && keepIn K (.ref p.1) &&
  (match p.2.init with | some f => findIn K (.ref p.1) "__init__" == some (some (.ref f)) && isFn K (.ref f) | none => true)
noncomputable def glObs (K : Frag) (p : Str × GV) : Bool := match p.2 with
  | .fn a => nsIn K mainGlobals p.1 == some (some (.ref a))
  | .cls a => nsIn K mainGlobals p.1 == some (some (.ref a))
  | .bi id => nsIn K mainGlobals p.1 == some none && bootBuiltins p.1 == some (.builtin id) && p.1 != "__name__"
  | .ty id => nsIn K mainGlobals p.1 == some none && bootBuiltins p.1 == some (.type id) && p.1 != "__name__"
  | _ => false
noncomputable def prObs (K : Frag) : List (Option (FuncBody × Scope × List Str) × Bool) × Bool :=
  (fnsP.map (fnObs K), (K.lookup sysModules).isSome && clsP.all (clObs K) && (globP ++ bltP).all (glObs K))
noncomputable def prExp : List (Option (FuncBody × Scope × List Str) × Bool) × Bool := (fnsP.map fnExp, true)

/-- what stands written of the defs -/
noncomputable def fnStat (p : Nat × FI) : Bool :=
  (p.2.scope.names.all fun x => x.2 != .cell) && !p.2.scope.isCoroutine && !p.2.scope.isGenerator && p.2.scope.kind == .function && (p.2.ns.all fun x => p.2.scope.names.lookup x == some .local) && decide p.2.ns.Nodup &&
  p.2.scope.names.lookup ("__debug__" : Str) == none
theorem fn_stat : fnsP.all fnStat = true := by decide +kernel

theorem lookup_mem {α β : Type} [BEq α] [LawfulBEq α] {a : α} {b : β} : ∀ {l : List (α × β)}, l.lookup a = some b → (a, b) ∈ l
  | [], h => by cases h
  | (x, y) :: l, h => by
    rw [List.lookup_cons] at h
    split at h
    · rename_i q; cases h; rw [beq_iff_eq.mp q]; exact .head _
    · exact .tail _ (lookup_mem h)
theorem ff_ne {p : Prop} (h : false = true) : p := nomatch h
theorem tupB_inv {K : Frag} {v : Value} (h : tupB K v = true) : ∃ a, v = .ref a ∧ KTup K a [] := by
  cases v with
  | ref a =>
    unfold tupB at h
    dsimp only at h
    cases q : K.lookup a with
    | none => rw [q] at h; cases h
    | some o =>
      rw [q] at h
      obtain ⟨c, d, dt, sl⟩ := o
      obtain ⟨h1, h2⟩ := Bool.and_eq_true_iff.mp h
      dsimp only at h1 h2
      cases c with
      | type n =>
        obtain rfl : n = "tuple" := of_decide_eq_true h1
        cases dt with
        | seq ws k =>
          obtain rfl : ws = #[] := Array.toList_eq_nil_iff.mp (List.isEmpty_iff.mp h2)
          exact ⟨a, rfl, d, sl, k, q⟩
        | _ => exact ff_ne h2
      | _ => exact ff_ne h1
  | _ => exact ff_ne h
theorem vOK_spec {K : Frag} (φ : Phi) (N : Led) {g : GV} {v : Value} (h : vOK K g v = true) : V K φ N g v := by
  cases g with
  | str s => cases v with
    | str t k => exact ⟨k, by rw [beq_iff_eq.mp h]⟩
    | _ => exact ff_ne h
  | int i => cases v with
    | int j k => exact ⟨k, by rw [beq_iff_eq.mp h]⟩
    | _ => exact ff_ne h
  | bool b => cases v with
    | bool c => exact congrArg Value.bool (beq_iff_eq.mp h).symm
    | _ => exact ff_ne h
  | tup xs =>
    obtain ⟨h1, h2⟩ := Bool.and_eq_true_iff.mp h
    obtain rfl := List.isEmpty_iff.mp h1
    obtain ⟨a, rfl, q⟩ := tupB_inv h2
    exact ⟨a, [], rfl, .inr q, rfl⟩
  | _ => exact ff_ne h
theorem vsOK_spec {K : Frag} (φ : Phi) (N : Led) : ∀ {gs : List GV} {vs : List Value}, vsOK K gs vs = true → Vs K φ N gs vs
  | [], [], _ => rfl
  | [], _ :: _, h => ff_ne h
  | _ :: _, [], h => ff_ne h
  | g :: gs, v :: vs, h => by
    obtain ⟨h1, h2⟩ := Bool.and_eq_true_iff.mp h
    exact ⟨v, vs, rfl, vOK_spec φ N h1, vsOK_spec φ N h2⟩
theorem dflOK_spec {K : Frag} {ds : List GV} {v : Value} (h : dflOK K ds v = true) : (v = .none ∧ ds = []) ∨ ∃ t c d ws k sl, v = .ref t ∧ K.lookup t = some ⟨c, d, .seq ws.toArray k, sl⟩ ∧ ∀ φ N, Vs K φ N ds ws := by
  cases v with
  | none => exact .inl ⟨rfl, List.isEmpty_iff.mp h⟩
  | ref t =>
    unfold dflOK at h
    dsimp only at h
    cases q : K.lookup t with
    | none => rw [q] at h; cases h
    | some o =>
      rw [q] at h
      obtain ⟨c, d, dt, sl⟩ := o
      cases dt with
      | seq ws k => exact .inr ⟨t, c, d, ws.toList, k, sl, rfl, q, fun φ N => vsOK_spec φ N (show vsOK K ds ws.toList = true from h)⟩
      | _ => exact ff_ne h
  | _ => exact ff_ne h
theorem fnD_inv {o : Option Obj} {fd : FuncData} (h : fnD o = some fd) : ∃ c d sl, o = some ⟨c, d, .func fd, sl⟩ := by
  cases o with
  | none => exact none_ne h
  | some o =>
    obtain ⟨c, d, dt, sl⟩ := o
    cases dt with
    | func f => cases h; exact ⟨c, d, sl, rfl⟩
    | _ => exact none_ne h

theorem fn_ok {K : Frag} (h : fnsP.map (fnObs K) = fnsP.map fnExp) (f : Nat) (fi : FI) (hf : fnsP.lookup f = some fi) : FnOK K f fi := by
  have hm := lookup_mem hf
  have e : fnObs K (f, fi) = fnExp (f, fi) := List.map_inj_left.mp h _ hm
  have st := List.all_eq_true.mp fn_stat _ hm
  unfold fnStat at st
  simp only [Bool.and_eq_true, Bool.not_eq_true', beq_iff_eq, decide_eq_true_eq, List.all_eq_true, bne_iff_ne] at st
  obtain ⟨⟨⟨⟨⟨⟨s1, s2⟩, s3⟩, s4⟩, s5⟩, s6⟩, s7⟩ := st
  unfold fnObs fnExp at e
  cases q : fnD (K.lookup f) with
  | none => rw [show fnD (K.lookup (f, fi).1) = none from q] at e; cases (Prod.mk.inj e).2
  | some fd =>
    rw [show fnD (K.lookup (f, fi).1) = some fd from q] at e
    obtain ⟨c, d, sl, q⟩ := fnD_inv q
    obtain ⟨e1, e2⟩ := Prod.mk.inj e
    obtain ⟨b1, b23⟩ := Prod.mk.inj (Option.some.inj e1)
    obtain ⟨b2, b3⟩ := Prod.mk.inj b23
    clear b23 e1 e
    simp only [Bool.and_eq_true] at e2
    obtain ⟨⟨⟨⟨⟨⟨⟨⟨⟨p1, p2⟩, p3⟩, p4⟩, g1⟩, g2⟩, g3⟩, g4⟩, g5⟩, g6⟩ := e2
    refine ⟨⟨c, d, sl, fd.name, fd.qualname, fd.params, fd.defaults, fd.kwdefaults, fd.doc, fd.pyModule, fd.annotations, fd.code, fd.closureTuple, ?_, g4, ⟨List.isEmpty_iff.mp p1, Option.isNone_iff_eq_none.mp p2, List.isEmpty_iff.mp p3, Option.isNone_iff_eq_none.mp p4⟩, b3, dflOK_spec g5⟩, g6, s1, s2, s3, s4, s5, s6, s7⟩
    rw [q]
    obtain ⟨name, qual, params, body, scope, gl, clo, dfl, kw, doc, pm, an, cd, ct, bi⟩ := fd
    dsimp only at b1 b2 g1 g2 g3
    subst b1 b2
    rw [Nat.eq_of_beq_eq_true g1, Nat.eq_of_beq_eq_true g3, List.isEmpty_iff.mp g2]

theorem pr_ok {K : Frag} (h : prObs K = prExp) : PrOK K PP := by
  obtain ⟨h1, h2⟩ := Prod.mk.inj h
  simp only [Bool.and_eq_true] at h2
  obtain ⟨⟨m, c⟩, g⟩ := h2
  refine ⟨Option.isSome_iff_exists.mp m, fn_ok h1, fun C ci hc => ?_, fun x v hx => ?_⟩
  · have e := List.all_eq_true.mp c _ (lookup_mem hc)
    unfold clObs at e
    simp only [Bool.and_eq_true, beq_iff_eq, List.all_eq_true] at e
    obtain ⟨⟨⟨⟨⟨⟨⟨⟨e1, e2⟩, e3⟩, e4⟩, e5⟩, e6⟩, e7⟩, e8⟩, e9⟩ := e
    refine ⟨e1, e2, e3, e4, e5, fun x f hx => e6 _ (lookup_mem hx), e7, e8, fun f hf => ?_⟩
    rw [show ci.init = some f from hf] at e9
    simpa using e9
  · have e := List.all_eq_true.mp g _ (lookup_mem hx)
    unfold glObs at e
    split at e
    · rename_i a q; have q : v = .fn a := q; subst q; exact .inl ⟨_, beq_iff_eq.mp e, fun _ _ => rfl⟩
    · rename_i a q; have q : v = .cls a := q; subst q; exact .inl ⟨_, beq_iff_eq.mp e, fun _ _ => rfl⟩
    · rename_i a q; have q : v = .bi a := q; subst q
      simp only [Bool.and_eq_true, beq_iff_eq, bne_iff_ne] at e
      exact .inr ⟨_, e.1.1, e.1.2, e.2, fun _ _ => rfl⟩
    · rename_i a q; have q : v = .ty a := q; subst q
      simp only [Bool.and_eq_true, beq_iff_eq, bne_iff_ne] at e
      exact .inr ⟨_, e.1.1, e.1.2, e.2, fun _ _ => rfl⟩
    · cases e
end Mine
end

section
set_option maxRecDepth 100000
set_option autoImplicit false
set_option tactic.hygienic false
namespace Mine
open PySem PySem.W PySem.Calls PyProof.Rows
noncomputable abbrev okQ : Thread → Bool := PySem.W.Fast.tw6613529449190102663 11 (some (.ref 6))
noncomputable abbrev stQ (w : World) : SharedT → Thread → Option (SharedT × Thread) := PySem.W.Fast.tw10156331382660048174 (PySem.W.Fast.tw11892475500146522536 PySem.W.Fast.tw14364793385576792824) pw w
theorem okQ_eq : stepOk 11 (some (.ref 6)) = okQ := by rw [PySem.W.Fast.te6613529449190102663]
theorem stQ_eq (w : World) : stepT (denote treeTable) pw w = stQ w := by rw [PySem.W.Fast.te10156331382660048174, PySem.W.Fast.te11892475500146522536, PySem.W.Fast.te14364793385576792824]
noncomputable def goT (ok : Thread → Bool) (stp : SharedT → Thread → Option (SharedT × Thread)) : Nat → SharedT → Thread → Option (SharedT × Thread)
  | 0, s, t => some (s, t)
  | n + 1, s, t => match ok t with
      | false => none
      | true => match stp s t with
        | some (s', t') => goT ok stp n s' t'
        | none => none
end Mine
end

section
set_option maxRecDepth 100000
set_option autoImplicit false
namespace Mine
open PySem PySem.W PySem.Calls PyProof.Rows
noncomputable def addrs : List Nat := [1, 3, 147, 336, 453, 531, 697, 914, 1077, 146, 335, 452, 530, 696, 913, 1076, 28, 35, 81, 165, 172, 179, 186, 200, 207, 214, 228, 235, 249, 256, 263, 270, 277, 354, 363, 372, 379, 386, 401, 415, 436, 464, 479, 486, 493, 500, 507, 514, 521, 528, 542, 549, 556, 563, 578, 585, 593, 601, 610, 617, 624, 631, 638, 645, 659, 694, 708, 715, 722, 729, 736, 743, 750, 757, 764, 771, 778, 785, 792, 799, 806, 813, 820, 827, 834, 841, 848, 855, 862, 869, 876, 890, 897, 904, 911, 933, 940, 947, 954, 961, 968, 975, 982, 989, 996, 1003, 1010, 1017, 1025, 1032, 1039, 1060, 1067, 1088, 1095, 1102, 1109, 1116, 1123, 1128, 1135, 356, 365, 394, 472, 571, 586, 594, 603, 926, 1018, 355, 364, 602] ++ [27, 34, 80, 164, 171, 178, 185, 199, 206, 213, 227, 234, 248, 255, 262, 269, 276, 353, 362, 371, 378, 385, 400, 414, 435, 463, 478, 485, 492, 499, 506, 513, 520, 527, 541, 548, 555, 562, 577, 584, 592, 600, 609, 616, 623, 630, 637, 644, 658, 693, 707, 714, 721, 728, 735, 742, 749, 756, 763, 770, 777, 784, 791, 798, 805, 812, 819, 826, 833, 840, 847, 854, 861, 868, 875, 889, 896, 903, 910, 932, 939, 946, 953, 960, 967, 974, 981, 988, 995, 1002, 1009, 1016, 1024, 1031, 1038, 1059, 1066, 1087, 1094, 1101, 1108, 1115, 1122, 1127, 1134]
noncomputable def getT (s : SharedT) (a : Nat) : Option Obj := match Nat.blt a s.n with
  | true => match s.tree.get a with
    | some o => alive o
    | none => none
  | false => none
noncomputable def fragT (s : SharedT) : List Nat → Frag
  | [] => []
  | a :: r => match getT s a with
    | some o => (a, o) :: fragT s r
    | none => fragT s r
theorem getT_get {s : SharedT} {a : Nat} {o : Obj} (h : getT s a = some o) : s.abs.heap.get? a = some o := by
  unfold getT at h
  split at h
  · rename_i q
    split at h
    · rename_i x hx
      exact (abs_get (Nat.lt_of_lt_of_le (Nat.lt_succ_self a) (Nat.le_of_ble_eq_true q)) hx).trans h
    · cases h
  · cases h
theorem fragT_in (s : SharedT) : ∀ as : List Nat, (fragT s as).In s.abs.heap
  | [], a, o, h => by cases h
  | b :: r, a, o, h => by
    unfold fragT at h
    split at h
    · rename_i x hx
      rw [List.lookup_cons] at h
      split at h
      · rename_i q; cases h; rw [beq_iff_eq.mp q]; exact getT_get hx
      · exact fragT_in s r a o h
    · exact fragT_in s r a o h
theorem big1 : ∀ w os, (runT okQ (stQ w) 7000 (s0T w.params os) (topStub pw)).map (fun s => fun X => prObs (fragT s addrs ++ X)) = some (fun _ => prExp) := by
  intro w os
  kernel_rfl
end Mine
end

section
set_option maxRecDepth 100000
set_option autoImplicit false
set_option Elab.async false
set_option tactic.hygienic false
namespace Mine
open PySem PySem.W PySem.Calls PyProof.Rows
noncomputable def qv : Program := { pw with main := { pw.main with body := [topAt 90] } }
noncomputable def looseN : List Str := PySem.Str.ofString "_wall" :: PySem.Str.ofString "hand_over" :: PySem.Str.ofString "drive" :: PySem.Str.ofString "HtmlFault" :: PySem.Str.ofString "Misused" :: PySem.Str.ofString "Formatting" :: PySem.Str.ofString "alike" :: PySem.Str.ofString "is_blank" :: PySem.Str.ofString "is_upper" :: PySem.Str.ofString "is_letter" :: PySem.Str.ofString "lower" :: PySem.Str.ofString "lower_text" :: PySem.Str.ofString "is_surrogate" :: PySem.Str.ofString "is_noncharacter" :: PySem.Str.ofString "is_control" :: PySem.Str.ofString "is_table_part" :: PySem.Str.ofString "is_math_point" :: PySem.Str.ofString "is_html_point" :: PySem.Str.ofString "OpenStack" :: PySem.Str.ofString "Tree" :: PySem.Str.ofString "above" :: PySem.Str.ofString "Builder" :: PySem.Str.ofString "is_html_turn" :: PySem.Str.ofString "finish" :: PySem.Str.ofString "attrs_in_order" :: PySem.Str.ofString "plain" :: PySem.Str.ofString "foster_place" :: PySem.Str.ofString "place_for" :: PySem.Str.ofString "insert_sign" :: PySem.Str.ofString "insert_comment" :: PySem.Str.ofString "make" :: PySem.Str.ofString "insert_element" :: PySem.Str.ofString "insert_token" :: PySem.Str.ofString "associate" :: PySem.Str.ofString "start_raw" :: PySem.Str.ofString "leave" :: PySem.Str.ofString "text_mode" :: PySem.Str.ofString "Draft" :: PySem.Str.ofString "open_comment" :: PySem.Str.ofString "close_comment" :: PySem.Str.ofString "null_in_comment" :: PySem.Str.ofString "is_mark_untold" :: PySem.Str.ofString "open_cdata" :: PySem.Str.ofString "markup_declaration_open_state" :: PySem.Str.ofString "bogus_comment_state" :: PySem.Str.ofString "cdata_section_state" :: PySem.Str.ofString "cdata_section_bracket_state" :: PySem.Str.ofString "cdata_section_end_state" :: PySem.Str.ofString "cdata_states" :: PySem.Str.ofString "tag_open_state" :: PySem.Str.ofString "end_tag_open_state" :: PySem.Str.ofString "tag_name_state" :: PySem.Str.ofString "data_state" :: PySem.Str.ofString "held_text" :: PySem.Str.ofString "less_than" :: PySem.Str.ofString "end_tag_open" :: PySem.Str.ofString "end_tag_name" :: PySem.Str.ofString "rcdata_state" :: PySem.Str.ofString "rcdata_less_than" :: PySem.Str.ofString "rcdata_end_tag_open" :: PySem.Str.ofString "rcdata_end_tag_name" :: PySem.Str.ofString "rcdata_states" :: PySem.Str.ofString "input_error" :: PySem.Str.ofString "Stream" :: PySem.Str.ofString "Tokenizer" :: PySem.Str.ofString "_law_states" :: PySem.Str.ofString "_law_body" :: PySem.Str.ofString "_law_parts" :: PySem.Str.ofString "_law_put" :: PySem.Str.ofString "_law_open" :: PySem.Str.ofString "_law_reading" :: PySem.Str.ofString "_law_tuple" :: []

noncomputable def XtQ : Shared → Bool := fun s => xlAt qv [] s && recOk [] s
noncomputable def lookS (P : Params) (s : Shared) : Bool := staticsOk (importedModules pw.main.body) (boot_heap P) s.heap && namesBound pw s.heap && gensDone s && laidKept (boot_heap P) s.heap
theorem big2 : ∀ w os, (runT okQ (stQ w) 7000 (s0T w.params os) (topStub pw)).map (fun s => (lookS w.params s.abs, openSeen qv looseN (importedModules pw.main.body) XtQ true s.abs)) = some (true, openGood qv looseN) := by
  intro w os
  kernel_rfl
end Mine
end

section
set_option maxRecDepth 100000
set_option autoImplicit false
set_option Elab.async false
set_option tactic.hygienic false
namespace Mine
open PySem PySem.W PySem.Calls PyProof.Rows

noncomputable def YP (h : Heap) : Prop := ∃ K : Frag, K.In h ∧ ∀ X : Frag, PrOK (K ++ X) PP
theorem boot_size (P : Params) : ((boot_heap P).isNs mainGlobals && (Array.mk [] : Array GenState).size == 0, (boot_heap P).objs.size, (boot_heap P).nsMap mainGlobals "__annotations__") = (true, 11, some (.ref 6)) := by kernel_rfl
theorem fence_q : ∀ s, fenceModules? pw s = some s := fun s => by rfl
theorem open_q : opening pw = plainProg pw.main.scope.names := by rfl
theorem open_w (w : World) : ∃ os, fencedOpening treeTable pw w 20000 = some ⟨boot_heap w.params, Array.mk [], boot_drawn, boot_toks, os⟩ := by
  obtain ⟨⟨h, gs, d, k, os⟩, e, e'⟩ := Option.map_eq_some_iff.mp (boot_open (p := pw) (N := 20000) open_q (by decide) fence_q w)
  obtain ⟨e1, e'⟩ := Prod.mk.inj e'
  obtain ⟨e2, e'⟩ := Prod.mk.inj e'
  obtain ⟨e3, e4⟩ := Prod.mk.inj e'
  dsimp only at e1 e2 e3 e4
  subst e1 e2 e3 e4
  exact ⟨os, e⟩
theorem abs_q (w : World) (os : OsState) : (s0T w.params os).abs = ⟨boot_heap w.params, Array.mk [], boot_drawn, boot_toks, os⟩ := by
  show Shared.mk (absHeap (bootT w.params) 11 (boot_heap w.params).life) _ _ _ _ = _
  rw [bootT_abs]
  rfl
theorem run_q (w : World) (os : OsState) : ∃ s : Shared, topRun treeTable pw w 11 (some (.ref 6)) 7000 ⟨boot_heap w.params, Array.mk [], boot_drawn, boot_toks, os⟩ (topStub pw) = some s ∧ lookS w.params s = true ∧ openSeen qv looseN (importedModules pw.main.body) XtQ true s = openGood qv looseN ∧ YP s.heap := by
  obtain ⟨sT, r1, o1⟩ := Option.map_eq_some_iff.mp (big1 w os)
  obtain ⟨sT', r2, o2⟩ := Option.map_eq_some_iff.mp (big2 w os)
  obtain rfl : sT = sT' := Option.some.inj (r1.symm.trans r2)
  obtain ⟨l1, l2⟩ := Prod.mk.inj o2
  have r := r1
  rw [← okQ_eq, ← stQ_eq] at r
  have r := runT_spec r
  rw [abs_q] at r
  exact ⟨sT.abs, r, l1, l2, ⟨fragT sT addrs, fragT_in _ _, fun X => pr_ok (congrFun o1 X)⟩⟩
theorem top_q (w : World) (os : OsState) (s : Shared) (r : topRun treeTable pw w 11 (some (.ref 6)) 7000 ⟨boot_heap w.params, Array.mk [], boot_drawn, boot_toks, os⟩ (topStub pw) = some s) (l : lookS w.params s = true) :
    topFrom treeTable pw w 20000 ⟨boot_heap w.params, Array.mk [], boot_drawn, boot_toks, os⟩ = some s := by
  obtain ⟨z1, z2⟩ := Prod.mk.inj (boot_size w.params)
  obtain ⟨z2, z3⟩ := Prod.mk.inj z2
  have r := topRun_mono 13000 _ _ _ _ r
  rw [show (7000 + 13000 : Nat) = 20000 from rfl] at r
  unfold topFrom
  dsimp only
  rw [z1, z2, z3]
  dsimp only
  rw [r]
  unfold lookS at l
  dsimp only [Option.bind_some]
  rw [l]
theorem left_q : LeftO pw qv looseN XtQ (fun s => YP s.heap) (fun _ => True) 20000 := fun w => by
  obtain ⟨os, e⟩ := open_w w
  obtain ⟨s, r, l1, l2, y⟩ := run_q w os
  unfold openEnds
  rw [e, Option.bind_some, top_q w os s r l1, Option.map_some]
  exact congrArg some (Prod.ext l2 (eq_true y))
end Mine
end

section
set_option maxRecDepth 100000
set_option autoImplicit false
set_option Elab.async false
open PySem PySem.W PySem.Calls PyProof.Rows
set_option tactic.hygienic false
namespace Mine
set_option maxHeartbeats 8000000 in
theorem said_ok : OpenLaw.wellSaid PySem.Challenge.rw_nz0110_01 = true := by
  unfold OpenLaw.wellSaid OpenRow.wellSaid OpenRow.partSaid looksOpen
  simp only [Bool.and_eq_true]
  and_intros
  all_goals try rw [PySem.W.Fast.te8326940854005059898]
  all_goals try rw [PySem.W.Fast.te17119622794617984870]
  all_goals try rw [PySem.W.Fast.te8179353310426384613]
  all_goals try rw [PySem.W.Fast.te9558739934217749035]
  all_goals try rw [PySem.W.Fast.te16286561074155671207]
  all_goals try rw [PySem.W.Fast.te11788848310118352699]
  all_goals try rw [PySem.W.Fast.te8377067652309620493]
  all_goals decide +kernel
end Mine
end

section
set_option maxRecDepth 100000
set_option autoImplicit false
set_option Elab.async false
namespace Mine
open PySem PySem.W PySem.Calls PyProof.Rows

noncomputable def lawD : DefRec := match topAt 90 with
  | .FunctionDef n a b _ _ _ sc _ _ p => ⟨n, a, b, sc, p⟩
  | _ => ⟨"", ⟨[], [], none, [], [], none, []⟩, [], { kind := .function, names := [], isGenerator := false, isCoroutine := false, more := [] }, default⟩
theorem lawD_is : defOf qv PySem.Challenge.rw_nz0110_01.row.name = some (lawD, []) := by rfl
noncomputable def lawB : List Stmt := (fiOf (topAt 90) []).body
noncomputable def lawS : Scope := (fiOf (topAt 90) []).scope

/-- the script, an object that stood before the call -/
noncomputable def Script (K : Frag) (l : Nat) (xs : List Int) : Prop := ∃ d sl n vs, K.lookup l = some ⟨.type "list", d, .seq vs.toArray n, sl⟩ ∧ IntsAre vs xs
noncomputable def LawOK : Prop := ∀ (K : Frag) (l : Nat) (xs : List Int), PrOK K PP → Script K l xs → xs.length ≤ 63 → ∃ loc ah, ExOK K 340 lawS lawB [("script", .fn l)] ⟨[], [], []⟩ (.ret (.bool true)) loc ah

theorem lookup_app {α β : Type} [BEq α] [LawfulBEq α] {a : α} : ∀ {l l' : List (α × β)}, l.lookup a = none → (l ++ l').lookup a = l'.lookup a
  | [], _, _ => rfl
  | (x, y) :: l, l', h => by
    rw [List.lookup_cons] at h
    rw [List.cons_append, List.lookup_cons]
    cases q : a == x with
    | true => rw [q] at h; cases h
    | false => rw [q] at h; exact lookup_app h
theorem lookup_app_some {α β : Type} [BEq α] [LawfulBEq α] {a : α} {b : β} : ∀ {l l' : List (α × β)}, l.lookup a = some b → (l ++ l').lookup a = some b
  | [], _, h => by cases h
  | (x, y) :: l, l', h => by
    rw [List.lookup_cons] at h
    rw [List.cons_append, List.lookup_cons]
    cases q : a == x with
    | true => rw [q] at h; exact h
    | false => rw [q] at h; exact lookup_app_some h

theorem names_q : namesOk qv (looseW qv looseN) (namesW qv looseN) = true := by
  rw [PySem.W.Fast.te17448422675489707002, PySem.W.Fast.te821141287760084731]
  decide +kernel
theorem imports_q : importsNone qv = true := by
  rw [PySem.W.Fast.te2458874890965802552]
  decide +kernel
set_option maxHeartbeats 8000000 in
theorem walk1 (H : LawOK) : WalkO qv looseN (XL qv []) (fun _ h => YP h) PySem.Challenge.rw_nz0110_01.row.toRowW lawD [] fun f vs => PySem.call f vs := by
  w_strict (intro w s₀ s₁ mg mb G Y fa o pm cd doc dV kV ho hd hcd hD hmg hg args vals as hpre hlay hrd hwl hlo; have X := (Ground.X G).1; have V := (Ground.X G).2; have GL := glob_more (Ground.glob G names_q imports_q) V; refine Ground.open G ?_)
  intro T B D TE TW
  try (refine guard_noD D (by decide +kernel) ?_; clear D)
  obtain ⟨_, _, M⟩ := bmod_of_top T
  have TA := at_of_top T
  try (obtain ⟨_, _, he, B0⟩ := based_of_top T rfl hmg ho hd; have he' : cd = _ := he; subst he'; clear he)
  clear hmg
  wrow_args hpre hlay hrd hwl hlo
  all_goals (
    first | refine callC_kw (enter_call ?_) | refine enter_call ?_ | refine callC_kw (enter_callW ?_) | refine enter_callW ?_ | w_how
    w_top on
    try refine codeAny_mono ?_ (fun _ _ g => GoodW.toG g)
    have K0 := below_caller (Top.heap T)
    w_call any ho hd hcd hD T F
    clear hd TA
    k_drop
    skip)
  rename_i a0 o0 a1 a2 xs hs hlay0 hL1 hr1 hl2 as1 as2 l vs as3 hL ra w1 r0 hI hr hc63 hct h₁ N0
  obtain ⟨lo, lo1, lo2, ln, lo3⟩ := hL
  obtain ⟨lc, ld, ldat, lsl⟩ := lo
  dsimp only at lo2 lo3
  subst lo2 lo3
  obtain ⟨Kp, hin, hpr⟩ := Y
  have OK := hpr [(l, ⟨.type "list", ld, .seq vs.toArray ln, lsl⟩)]
  have hinK : (Kp ++ [(l, ⟨.type "list", ld, .seq vs.toArray ln, lsl⟩)] : Frag).In s₁.heap := by
    intro a x hx
    cases q : Kp.lookup a with
    | some y => rw [lookup_app_some q] at hx; cases hx; exact hin _ _ q
    | none =>
      rw [lookup_app q, List.lookup_cons] at hx
      split at hx
      · rename_i e; cases hx; rw [beq_iff_eq.mp e]; exact lo1
      · cases hx
  have hS : Script (Kp ++ [(l, ⟨.type "list", ld, .seq vs.toArray ln, lsl⟩)]) l xs := by
    cases q : Kp.lookup l with
    | some y =>
      have := hin _ _ q
      rw [lo1] at this
      cases this
      exact ⟨_, _, _, _, lookup_app_some q, hI⟩
    | none => exact ⟨ld, lsl, ln, vs, by rw [lookup_app q, List.lookup_cons]; simp, hI⟩
  obtain ⟨loc', ah', E⟩ := H _ l xs OK hS (by omega)
  have C : CX (Kp ++ [(l, ⟨.type "list", ld, .seq vs.toArray ln, lsl⟩)]) (callerA.deeper (envOf lawD.name lawD.scope s₁.heap.objs.size fa (Value.ref a1))) s₁.heap (envOf lawD.name lawD.scope s₁.heap.objs.size fa (Value.ref a1)) lawS 340 :=
    ⟨⟨lawD.name, fa, .ref a1, rfl⟩, rfl, by decide +kernel, ⟨callerA, _, [], K0, rfl⟩, hinK, ⟨_, _, _, _, topRead_of T⟩, rfl, (by show callerA.depth + 1 + 2 * 340 < recursionLimit; decide), (by show callerA.units + 3 + 8 * 340 + 200 < cLine; decide)⟩
  refine E (w := w) (N := []) (φ := ⟨[], [], []⟩) C ⟨F, N0, ⟨rfl, rfl, rfl, List.nodup_nil, List.nodup_nil, fun r o p h => ?_, fun r o h => ?_⟩, fun x g e => ?_⟩ fun φ' N' m' f h' tk I' X' hfl => ?_
  · cases r <;> cases h
  · cases r <;> cases h
  · rw [List.lookup_cons] at e
    split at e
    · rename_i q
      cases e
      rw [beq_iff_eq.mp q]
      exact ⟨.ref l, rfl, rfl⟩
    · cases e
  · obtain ⟨v, rfl, hv⟩ := hfl
    have hv : v = .bool true := hv
    subst hv
    exact goodW_bool I'.fr hg (fun _ => rfl) (by kernel_rfl)
set_option maxHeartbeats 8000000 in
theorem head (H : LawOK) : PySem.Challenge.rw_nz0110_01.Holds := by
  refine holds_law said_ok fun said => ?_
  refine holds_open (q := qv) (loose := looseN) (Xt := XtQ) (XP := XL qv []) (Yf := fun s => YP s.heap) (Ya := fun _ => True) (YP := fun _ h => YP h) (N := 20000) left_q (fun _ _ e => of_eq_true e) (fun _ _ _ ⟨K, a, b⟩ k => ⟨K, a.keeps k, b⟩) (fun s e => xl_of s (Bool.and_eq_true_iff.mp e).1) XL.keeps lawD_is (by rfl) (by rfl) (fun s e => recFacts_of (Bool.and_eq_true_iff.mp e).2) (by rfl) (by assumption) (by decide +kernel) ⟨rfl, rfl, rfl, rfl, rfl, by decide +kernel⟩ ?hw (walk1 H)
  case hw => w_witness2
end Mine
end

section
set_option maxRecDepth 100000
set_option autoImplicit false
set_option tactic.hygienic false
namespace Mine
open PySem PySem.W PySem.Calls PyProof.Rows

/-- what stands in the core and may change -/
structure X where
  mode : Str
  orig : Str
  wish : Str
  bdone : Bool
  berr : List GV
  kinds : List GV
  spaces : List GV
  names : List GV
  attrs : List GV
  texts : List GV
  parents : List GV
  kids : List GV
  items : List GV
  pos : Int
  state : Str
  out : List GV
  terr : List GV
  draft : GV
  buf : Str
  last : Str
  foreign : Bool
  wait : Bool
  done : Bool
  signs : List GV
  closed : Bool
structure Pre where
  p0 : AO
  p1 : AO
  p2 : AO
  p3 : AO

noncomputable def core (q : Pre) (x : X) : List AO := [q.p0, q.p1, q.p2, q.p3,
  .dict [("in body", .fn 1095), ("foreign content", .fn 1095), ("text", .fn 645)],
  .inst 531 [("rules", .obj (.c 4)), ("tree", .obj (.c 6)), ("stack", .obj (.c 15)), ("formatting", .obj (.c 17)), ("mode", .str x.mode), ("original", .str x.orig), ("modes", .obj (.c 19)), ("head", .int (-1)), ("form", .int (-1)),
    ("owners", .obj (.c 20)), ("is_frameset_ok", .bool true), ("is_scripting", .bool false), ("is_foster", .bool false), ("context", .int (-1)), ("quirks", .str "no-quirks"), ("errors", .obj (.c 21)), ("pending", .obj (.c 22)),
    ("wish", .str x.wish), ("is_skipping", .bool false), ("is_acknowledged", .bool false), ("is_done", .bool x.bdone)],
  .inst 453 [("kinds", .obj (.c 7)), ("spaces", .obj (.c 8)), ("names", .obj (.c 9)), ("attrs", .obj (.c 10)), ("texts", .obj (.c 11)), ("parents", .obj (.c 12)), ("children", .obj (.c 13)), ("contents", .obj (.c 14))],
  .list x.kinds, .list x.spaces, .list x.names, .list x.attrs, .list x.texts, .list x.parents, .list x.kids, .dict [],
  .inst 336 [("tree", .obj (.c 6)), ("items", .obj (.c 16))], .list x.items,
  .inst 147 [("tree", .obj (.c 6)), ("items", .obj (.c 18))], .list [], .list [], .dict [], .list x.berr, .list [],
  .dict [("data", .fn 806), ("tag open", .fn 785), ("end tag open", .fn 792), ("tag name", .fn 799), ("markup declaration open", .fn 743), ("bogus comment", .fn 750), ("RCDATA", .fn 841), ("RCDATA less-than sign", .fn 848),
    ("RCDATA end tag open", .fn 855), ("RCDATA end tag name", .fn 862), ("CDATA section", .fn 757), ("CDATA section bracket", .fn 764), ("CDATA section end", .fn 771)],
  .dict [("RCDATA", .fn 841), ("RCDATA less-than sign", .fn 848), ("RCDATA end tag open", .fn 855), ("RCDATA end tag name", .fn 862)],
  .dict [("CDATA section", .fn 757), ("CDATA section bracket", .fn 764), ("CDATA section end", .fn 771)],
  .inst 1077 [("states", .obj (.c 23)), ("stream", .obj (.c 27)), ("at", .int x.pos), ("state", .str x.state), ("back", .str "data"), ("out", .obj (.c 30)), ("errors", .obj (.c 31)), ("draft", x.draft), ("buffer", .str x.buf),
    ("code", .int 0), ("last", .str x.last), ("is_foreign", .bool x.foreign), ("is_waiting", .bool x.wait), ("is_done", .bool x.done)],
  .inst 914 [("signs", .obj (.c 28)), ("is_closed", .bool x.closed), ("is_return", .bool false), ("errors", .obj (.c 29))],
  .list x.signs, .list [], .list x.out, .list x.terr]
noncomputable abbrev gT : GV := .obj (.c 26)
noncomputable abbrev gB : GV := .obj (.c 5)
noncomputable abbrev hp (q : Pre) (x : X) (d n : List AO) : AH := ⟨core q x, d, n⟩
/-- a sign -/
noncomputable abbrev ch (k : Nat) : Str := ⟨#[k]⟩
end Mine
end

section
set_option maxRecDepth 100000
set_option autoImplicit false
set_option tactic.hygienic false
namespace Mine
open PySem PySem.W PySem.Calls PyProof.Rows

theorem get_lt {α : Type} {n : List α} {a : Nat} {o : α} (h : n[a]? = some o) : a < n.length := by
  rcases Nat.lt_or_ge a n.length with q | q
  · exact q
  · rw [List.getElem?_eq_none q] at h; cases h
theorem lt_of_get {l : List GV} {a : Nat} {g : GV} (h : l[a]? = some g) : decide ((Int.ofNat a) < Int.ofNat l.length) = true :=
  decide_eq_true (Int.ofNat_lt.mpr (get_lt h))
theorem get_len {α : Type} (n : List α) (o : α) : (n ++ [o])[n.length]? = some o := by simp
theorem set_len {α : Type} (n : List α) (o o' : α) (m : List α) : (n ++ o :: m).set n.length o' = n ++ o' :: m := by simp
theorem get_app {α : Type} {n : List α} {a : Nat} {o : α} (h : n[a]? = some o) (m : List α) : (n ++ m)[a]? = some o := by
  rw [List.getElem?_append_left (get_lt h)]; exact h

/-- the signs that the parts hold -/
noncomputable def okC : List Nat := [60, 47, 62, 98, 115, 116, 84, 66, 120, 121, 122, 33, 91, 67, 68, 65, 93]
noncomputable def letC : List Nat := [98, 115, 116, 84, 66]
noncomputable def low (c : Nat) : Nat := if c = 84 then 116 else if c = 66 then 98 else c
theorem let_ok {c : Nat} (h : c ∈ letC) : c ∈ okC := by
  simp only [letC, List.mem_cons, List.not_mem_nil, or_false] at h
  rcases h with rfl | rfl | rfl | rfl | rfl <;> decide
theorem ch_ne {c k : Nat} (h : c ≠ k) : (ch c == ch k) = false := by
  show decide (_ = _) = false
  simpa [ch] using h
theorem ok_ne {c : Nat} (h : c ∈ okC) : c ≠ 0 ∧ c ≠ 38 ∧ c ≠ 9 ∧ c ≠ 10 ∧ c ≠ 12 ∧ c ≠ 32 ∧ c ≠ 13 ∧ c ≠ 63 := by
  exact (by decide +kernel : ∀ c ∈ okC, c ≠ 0 ∧ c ≠ 38 ∧ c ≠ 9 ∧ c ≠ 10 ∧ c ≠ 12 ∧ c ≠ 32 ∧ c ≠ 13 ∧ c ≠ 63) c h
theorem let_ne {c : Nat} (h : c ∈ letC) : c ≠ 60 ∧ c ≠ 47 ∧ c ≠ 62 ∧ c ≠ 33 ∧ c ≠ 93 ∧ c ≠ 91 := by
  exact (by decide +kernel : ∀ c ∈ letC, c ≠ 60 ∧ c ≠ 47 ∧ c ≠ 62 ∧ c ≠ 33 ∧ c ≠ 93 ∧ c ≠ 91) c h
theorem Ands.app {a b : List Prop} (h : Ands a) (k : Ands b) : Ands (a ++ b) := by
  induction a with
  | nil => exact k
  | cons p r ih => exact ⟨h.1, ih h.2⟩
theorem Ands.rep {p : Prop} (h : p) : ∀ k, Ands (List.replicate k p)
  | 0 => trivial
  | k + 1 => ⟨h, Ands.rep h k⟩

section
variable {K : Frag} (OK : PrOK K PP)
include OK
theorem letter_ok {c : Nat} (h : c ∈ letC) (ah : AH) : ClOK K 10 179 [.str (ch c)] ah (.bool true) ah := by
  simp only [letC, List.mem_cons, List.not_mem_nil, or_false] at h
  rcases h with rfl | rfl | rfl | rfl | rfl <;>
  exact run_call OK (b := 0) (j := 10) (hs := []) (c := []) (hs' := []) (loc' := []) (by kernel_rfl) trivial
theorem low_ok {c : Nat} (h : c ∈ letC) (ah : AH) : ClOK K 10 186 [.str (ch c)] ah (.str (ch (low c))) ah := by
  simp only [letC, List.mem_cons, List.not_mem_nil, or_false] at h
  rcases h with rfl | rfl | rfl | rfl | rfl <;>
  exact run_call OK (b := 0) (j := 10) (hs := []) (c := []) (hs' := []) (loc' := []) (by kernel_rfl) trivial
end

/-- a draft -/
noncomputable def dfs (kind name text : Str) (r : Nat) : List (Str × GV) := [("kind", .str kind), ("name", .str name), ("text", .str text), ("public", .none), ("system", .none), ("is_quirks", .bool false), ("is_closing", .bool false), ("attrs", .obj (.n r))]
noncomputable def dft (kind name text : Str) (r : Nat) : AO := .inst 697 (dfs kind name text r)
noncomputable def dhs (kind name text : Str) (r : Nat) : List H := (List.range 8).map fun k => .o (.inst 697 ((dfs kind name text r).take k))
noncomputable def dS (n : List AO) (fs : List (Str × GV)) : Nat → List AO
  | 0 => n ++ [.inst 697 []]
  | k + 1 => (dS n fs k).set n.length (.inst 697 (fs.take (k + 1)))
theorem dS_eq (n : List AO) (fs : List (Str × GV)) : ∀ k, dS n fs k = n ++ [.inst 697 (fs.take k)]
  | 0 => rfl
  | k + 1 => by rw [dS, dS_eq n fs k, set_len]
/-- n and a live draft -/
noncomputable abbrev nD (n : List AO) (k nm tx : Str) : List AO := n ++ [dft k nm tx (n.length + 1), .list []]
theorem nD_get (n : List AO) (k nm tx : Str) : (nD n k nm tx)[n.length]? = some (dft k nm tx (n.length + 1)) := by simp [nD]
theorem nD_get1 (n : List AO) (k nm tx : Str) : (nD n k nm tx)[n.length + 1]? = some (.list []) := by
  rw [nD, List.getElem?_append_right (Nat.le_succ _)]; simp
theorem nD_set (n : List AO) (k nm tx k' nm' tx' : Str) : (nD n k nm tx).set n.length (dft k' nm' tx' (n.length + 1)) = nD n k' nm' tx' := by simp [nD]
section
variable {K : Frag} (OK : PrOK K PP)
include OK
theorem draft_init (kind name : Str) (c d n : List AO) : ClOK K 10 659 [.obj (.n n.length), .str kind, .str name] ⟨c, d, n ++ [.inst 697 []]⟩ .none ⟨c, d, nD n kind name ""⟩ := by
  have h := run_call OK (b := 0) (j := 10) (f := 659) (ga := [.obj (.n n.length), .str kind, .str name]) (ah := ⟨c, d, n ++ [.inst 697 []]⟩) (g := .none) (loc' := []) (hs' := [])
    (hs := dhs kind name "" (dS n (dfs kind name "" 0) 7).length)
    (c := [(dS n (dfs kind name "" 0) 0)[n.length]? = some (.inst 697 ((dfs kind name "" 0).take 0)), (dS n (dfs kind name "" 0) 1)[n.length]? = some (.inst 697 ((dfs kind name "" 0).take 1)),
      (dS n (dfs kind name "" 0) 2)[n.length]? = some (.inst 697 ((dfs kind name "" 0).take 2)), (dS n (dfs kind name "" 0) 3)[n.length]? = some (.inst 697 ((dfs kind name "" 0).take 3)),
      (dS n (dfs kind name "" 0) 4)[n.length]? = some (.inst 697 ((dfs kind name "" 0).take 4)), (dS n (dfs kind name "" 0) 5)[n.length]? = some (.inst 697 ((dfs kind name "" 0).take 5)),
      (dS n (dfs kind name "" 0) 6)[n.length]? = some (.inst 697 ((dfs kind name "" 0).take 6)), (dS n (dfs kind name "" 0) 7 ++ [.list []])[n.length]? = some (.inst 697 ((dfs kind name "" 0).take 7))])
    (ah' := ⟨c, d, (dS n (dfs kind name "" 0) 7 ++ [AO.list []]).set n.length (.inst 697 (dfs kind name "" (dS n (dfs kind name "" 0) 7).length))⟩) (by kernel_rfl)
    ⟨by rw [dS_eq, get_len], by rw [dS_eq, get_len], by rw [dS_eq, get_len], by rw [dS_eq, get_len], by rw [dS_eq, get_len], by rw [dS_eq, get_len], by rw [dS_eq, get_len], by rw [dS_eq]; exact get_app (get_len _ _) _, trivial⟩
  have e : (dS n (dfs kind name "" 0) 7 ++ [AO.list []]).set n.length (.inst 697 (dfs kind name "" (dS n (dfs kind name "" 0) 7).length)) = nD n kind name "" := by
    rw [dS_eq, List.length_append, List.append_assoc]
    simp [dft]
  rw [e] at h
  exact h
end

/-! ## the tokenizer's steps -/
/-- a step that leaves the builder alone -/
noncomputable abbrev Stp (K : Frag) (q : Pre) (x : X) (d n : List AO) (x' : X) (n' : List AO) : Prop := ClOK K 60 1060 [gT] (hp q x d n) .none (hp q x' d n')
theorem Stp.of {K : Frag} (OK : PrOK K PP) {q : Pre} {x x' : X} {d n n' : List AO} (hs : List H) (c : List Prop) (h : (mk PP (OrS K 30) 30).cl 1060 [gT] ⟨[], hp q x d n, hs⟩ = some (c, .none, ⟨[], hp q x' d n', []⟩)) (hc : Ands c) : Stp K q x d n x' n' :=
  run_call OK (b := 30) (j := 30) h hc
noncomputable def nx (c : Str) : List H := [.a, .t, .v (.str c)]
noncomputable def cN (x : X) (a : Nat) (s : Str) : List Prop := [decide (Int.ofNat a < Int.ofNat x.signs.length) = true, x.signs[a]? = some (.str s)]
theorem cN.ok {x : X} {a : Nat} {s : Str} (h : x.signs[a]? = some (.str s)) : Ands (cN x a s) := ⟨lt_of_get h, h, trivial⟩
noncomputable abbrev tChar (s : Str) : GV := .tup [.str "char", .str s]
noncomputable def oo (k : Nat) (o : AO) : List H := List.replicate k (.o o)
theorem back (a : Nat) : Int.ofNat (a + 1) - 1 = Int.ofNat a := by simp
section
variable {K : Frag} (OK : PrOK K PP) {q : Pre} {x : X} {d n : List AO} {a c : Nat}
include OK
theorem s_data_lt (h : x.signs[a]? = some (.str "<")) : Stp K q {x with pos := .ofNat a, state := "data", wait := false} d n {x with pos := .ofNat (a + 1), state := "tag open", wait := false} n :=
  Stp.of OK (nx "<") (cN x a "<") (by kernel_rfl) (cN.ok h)
theorem s_data_ch (hc : c ∈ okC) (h6 : c ≠ 60) (h : x.signs[a]? = some (.str (ch c))) (ho : x.out.length < 1000000) :
    Stp K q {x with pos := .ofNat a, state := "data", wait := false} d n {x with pos := .ofNat (a + 1), state := "data", wait := false, out := x.out ++ [tChar (ch c)]} n :=
  Stp.of OK (nx (ch c) ++ [.a, .f, .f, .f]) (cN x a (ch c) ++ [(ch c == ch 38) = false, (ch c == ch 60) = false, (ch c == ch 0) = false, x.out.length < 1000000]) (by kernel_rfl)
    (Ands.app (cN.ok h) ⟨ch_ne (ok_ne hc).2.1, ch_ne h6, ch_ne (ok_ne hc).1, ho, trivial⟩)
theorem s_data_eof (h : x.signs.length ≤ a) (ho : x.out.length < 1000000) :
    Stp K q {x with pos := .ofNat a, state := "data", wait := false} d n {x with pos := .ofNat (a + 1), state := "data", wait := false, done := true, out := x.out ++ [.tup [.str "eof"]]} n :=
  Stp.of OK [.a, .f] [decide (Int.ofNat a < Int.ofNat x.signs.length) = false, x.out.length < 1000000] (by kernel_rfl) ⟨decide_eq_false (fun q => Nat.lt_irrefl _ (Nat.lt_of_lt_of_le (Int.ofNat_lt.mp q) h)), ho, trivial⟩
theorem s_open_bang (h : x.signs[a]? = some (.str "!")) : Stp K q {x with pos := .ofNat a, state := "tag open", wait := false} d n {x with pos := .ofNat (a + 1), state := "markup declaration open", wait := false} n :=
  Stp.of OK (nx "!") (cN x a "!") (by kernel_rfl) (cN.ok h)
theorem s_open_slash (h : x.signs[a]? = some (.str "/")) : Stp K q {x with pos := .ofNat a, state := "tag open", wait := false} d n {x with pos := .ofNat (a + 1), state := "end tag open", wait := false} n :=
  Stp.of OK (nx "/") (cN x a "/") (by kernel_rfl) (cN.ok h)
theorem s_open_let (hc : c ∈ letC) (h : x.signs[a]? = some (.str (ch c))) :
    Stp K q {x with pos := .ofNat a, state := "tag open", wait := false} d n {x with pos := .ofNat a, state := "tag name", wait := false, draft := .obj (.n n.length)} (nD n "start" "" "") := by
  have h := Stp.of OK (q := q) (x := {x with pos := .ofNat a, state := "tag open", wait := false}) (x' := {x with pos := .ofNat (a + 1) - 1, state := "tag name", wait := false, draft := .obj (.n n.length)}) (d := d) (n := n) (n' := nD n "start" "" "")
    (nx (ch c) ++ [.f, .f, .c 179 (.bool true) (hp q {x with pos := .ofNat (a+1), state := "tag open", wait := false} d n), .a, .c 659 .none (hp q {x with pos := .ofNat (a+1), state := "tag open", wait := false} d (nD n "start" "" ""))])
    (cN x a (ch c) ++ [(ch c == ch 33) = false, (ch c == ch 47) = false, ClOK K 30 179 [.str (ch c)] (hp q {x with pos := .ofNat (a+1), state := "tag open", wait := false} d n) (.bool true) (hp q {x with pos := .ofNat (a+1), state := "tag open", wait := false} d n),
      ClOK K 30 659 [.obj (.n n.length), .str "start", .str ""] (hp q {x with pos := .ofNat (a+1), state := "tag open", wait := false} d (n ++ [.inst 697 []])) .none (hp q {x with pos := .ofNat (a+1), state := "tag open", wait := false} d (nD n "start" "" ""))]) (by kernel_rfl)
    (Ands.app (cN.ok h) ⟨ch_ne (let_ne hc).2.2.2.1, ch_ne (let_ne hc).2.1, (letter_ok OK hc _).up (by decide), (draft_init OK "start" "" _ d n).up (by decide), trivial⟩)
  rw [back] at h
  exact h
end
end Mine
end

section
set_option maxRecDepth 100000
set_option autoImplicit false
set_option tactic.hygienic false
namespace Mine
open PySem PySem.W PySem.Calls PyProof.Rows
theorem blank_no {c : Nat} (hc : c ∈ okC) : (([ch 9, ch 10, ch 12, ch 32] : List Str).any (ch c == ·)) = false := by
  obtain ⟨_, _, h9, h10, h12, h32, _⟩ := ok_ne hc
  show ((ch c == ch 9) || ((ch c == ch 10) || ((ch c == ch 12) || ((ch c == ch 32) || false)))) = false
  rw [ch_ne h9, ch_ne h10, ch_ne h12, ch_ne h32]; rfl
noncomputable abbrev tTag (k nm : Str) : GV := .tup [.str k, .str nm, .tup [], .bool false]
noncomputable abbrev gErr (i : Int) : GV := .tup [.str "cdata-in-html-content", .int i]
section
variable {K : Frag} (OK : PrOK K PP) {q : Pre} {x : X} {d n : List AO} {a c : Nat} {nm tx k : Str}
include OK
theorem s_eopen_let (hc : c ∈ letC) (h : x.signs[a]? = some (.str (ch c))) :
    Stp K q {x with pos := .ofNat a, state := "end tag open", wait := false} d n {x with pos := .ofNat a, state := "tag name", wait := false, draft := .obj (.n n.length)} (nD n "end" "" "") := by
  have h := Stp.of OK (q := q) (x := {x with pos := .ofNat a, state := "end tag open", wait := false}) (x' := {x with pos := .ofNat (a + 1) - 1, state := "tag name", wait := false, draft := .obj (.n n.length)}) (d := d) (n := n) (n' := nD n "end" "" "")
    (nx (ch c) ++ [.c 179 (.bool true) (hp q {x with pos := .ofNat (a+1), state := "end tag open", wait := false} d n), .a, .c 659 .none (hp q {x with pos := .ofNat (a+1), state := "end tag open", wait := false} d (nD n "end" "" ""))])
    (cN x a (ch c) ++ [ClOK K 30 179 [.str (ch c)] (hp q {x with pos := .ofNat (a+1), state := "end tag open", wait := false} d n) (.bool true) (hp q {x with pos := .ofNat (a+1), state := "end tag open", wait := false} d n),
      ClOK K 30 659 [.obj (.n n.length), .str "end", .str ""] (hp q {x with pos := .ofNat (a+1), state := "end tag open", wait := false} d (n ++ [.inst 697 []])) .none (hp q {x with pos := .ofNat (a+1), state := "end tag open", wait := false} d (nD n "end" "" ""))]) (by kernel_rfl)
    (Ands.app (cN.ok h) ⟨(letter_ok OK hc _).up (by decide), (draft_init OK "end" "" _ d n).up (by decide), trivial⟩)
  rw [back] at h
  exact h
theorem s_name_let (hc : c ∈ letC) (h : x.signs[a]? = some (.str (ch c))) (hl : nm.length ≤ 1000) :
    Stp K q {x with pos := .ofNat a, state := "tag name", wait := false, draft := .obj (.n n.length)} d (nD n k nm tx) {x with pos := .ofNat (a + 1), state := "tag name", wait := false, draft := .obj (.n n.length)} (nD n k (nm ++ ch (low c)) tx) := by
  have h := Stp.of OK (q := q) (x := {x with pos := .ofNat a, state := "tag name", wait := false, draft := .obj (.n n.length)}) (x' := {x with pos := .ofNat (a + 1), state := "tag name", wait := false, draft := .obj (.n n.length)}) (d := d) (n := nD n k nm tx)
    (n' := (nD n k nm tx).set n.length (dft k (nm ++ ch (low c)) tx (n.length + 1)))
    (nx (ch c) ++ [.f, .f, .f, .f, .a, .o (dft k nm tx (n.length + 1)), .c 186 (.str (ch (low c))) (hp q {x with pos := .ofNat (a+1), state := "tag name", wait := false, draft := .obj (.n n.length)} d (nD n k nm tx)), .o (dft k nm tx (n.length + 1))])
    (cN x a (ch c) ++ [(([ch 9, ch 10, ch 12, ch 32] : List Str).any (ch c == ·)) = false, (ch c == ch 47) = false, (ch c == ch 62) = false, (ch c == ch 0) = false, (nD n k nm tx)[n.length]? = some (dft k nm tx (n.length + 1)),
      ClOK K 30 186 [.str (ch c)] (hp q {x with pos := .ofNat (a+1), state := "tag name", wait := false, draft := .obj (.n n.length)} d (nD n k nm tx)) (.str (ch (low c))) (hp q {x with pos := .ofNat (a+1), state := "tag name", wait := false, draft := .obj (.n n.length)} d (nD n k nm tx)),
      nm.length + 1 ≤ 1000000, (nD n k nm tx)[n.length]? = some (dft k nm tx (n.length + 1))]) (by kernel_rfl)
    (Ands.app (cN.ok h) ⟨blank_no (let_ok hc), ch_ne (let_ne hc).2.1, ch_ne (let_ne hc).2.2.1, ch_ne (ok_ne (let_ok hc)).1, nD_get .., (low_ok OK hc _).up (by decide), by omega, nD_get .., trivial⟩)
  rw [nD_set] at h
  exact h
theorem s_name_gt_start (h : x.signs[a]? = some (.str ">")) (ho : x.out.length < 1000000) :
    Stp K q {x with pos := .ofNat a, state := "tag name", wait := false, draft := .obj (.n n.length)} d (nD n "start" nm tx)
      {x with pos := .ofNat (a + 1), state := "data", wait := false, draft := .none, last := nm, out := x.out ++ [tTag "start" nm]} (nD n "start" nm tx ++ [.list []]) :=
  have g := nD_get n "start" nm tx
  have g' := get_app g [.list []]
  Stp.of OK (nx ">" ++ oo 5 (dft "start" nm tx (n.length + 1)) ++ [.o (.list [])] ++ oo 2 (dft "start" nm tx (n.length + 1)) ++ [.o (.list []), .o (dft "start" nm tx (n.length + 1))])
    (cN x a ">" ++ (List.replicate 4 ((nD n "start" nm tx)[n.length]? = some (dft "start" nm tx (n.length + 1))) ++ [(nD n "start" nm tx ++ [.list []])[n.length]? = some (dft "start" nm tx (n.length + 1)), (nD n "start" nm tx ++ [.list []])[n.length + 1]? = some (.list []),
      (nD n "start" nm tx ++ [.list []])[n.length]? = some (dft "start" nm tx (n.length + 1)), (nD n "start" nm tx ++ [.list []])[n.length]? = some (dft "start" nm tx (n.length + 1)), (nD n "start" nm tx ++ [.list []])[(nD n "start" nm tx).length]? = some (.list []),
      (nD n "start" nm tx ++ [.list []])[n.length]? = some (dft "start" nm tx (n.length + 1)), x.out.length < 1000000])) (by kernel_rfl)
    (Ands.app (cN.ok h) (Ands.app (Ands.rep g 4) ⟨g', get_app (nD_get1 ..) _, g', g', get_len _ _, g', ho, trivial⟩))
theorem s_name_gt_end (h : x.signs[a]? = some (.str ">")) (ho : x.out.length < 1000000) :
    Stp K q {x with pos := .ofNat a, state := "tag name", wait := false, draft := .obj (.n n.length)} d (nD n "end" nm tx)
      {x with pos := .ofNat (a + 1), state := "data", wait := false, draft := .none, out := x.out ++ [tTag "end" nm]} (nD n "end" nm tx ++ [.list []]) :=
  have g := nD_get n "end" nm tx
  have g' := get_app g [.list []]
  Stp.of OK (nx ">" ++ oo 2 (dft "end" nm tx (n.length + 1)) ++ [.o (.list [])] ++ oo 5 (dft "end" nm tx (n.length + 1)) ++ [.o (.list [])] ++ oo 2 (dft "end" nm tx (n.length + 1)) ++ [.o (.list []), .o (dft "end" nm tx (n.length + 1))])
    (cN x a ">" ++ (List.replicate 2 ((nD n "end" nm tx)[n.length]? = some (dft "end" nm tx (n.length + 1))) ++ ([(nD n "end" nm tx)[n.length + 1]? = some (.list [])] ++ (List.replicate 4 ((nD n "end" nm tx)[n.length]? = some (dft "end" nm tx (n.length + 1))) ++
      [(nD n "end" nm tx ++ [.list []])[n.length]? = some (dft "end" nm tx (n.length + 1)), (nD n "end" nm tx ++ [.list []])[n.length + 1]? = some (.list []),
      (nD n "end" nm tx ++ [.list []])[n.length]? = some (dft "end" nm tx (n.length + 1)), (nD n "end" nm tx ++ [.list []])[n.length]? = some (dft "end" nm tx (n.length + 1)), (nD n "end" nm tx ++ [.list []])[(nD n "end" nm tx).length]? = some (.list []),
      (nD n "end" nm tx ++ [.list []])[n.length]? = some (dft "end" nm tx (n.length + 1)), x.out.length < 1000000])))) (by kernel_rfl)
    (Ands.app (cN.ok h) (Ands.app (Ands.rep g 2) (Ands.app (a := [_]) ⟨nD_get1 .., trivial⟩ (Ands.app (Ands.rep g 4) ⟨g', get_app (nD_get1 ..) _, g', g', get_len _ _, g', ho, trivial⟩))))
/-! CDATA -/
theorem s_cd_br (h : x.signs[a]? = some (.str "]")) : Stp K q {x with pos := .ofNat a, state := "CDATA section", wait := false} d n {x with pos := .ofNat (a + 1), state := "CDATA section bracket", wait := false} n :=
  Stp.of OK (nx "]") (cN x a "]") (by kernel_rfl) (cN.ok h)
theorem s_cd_ch (h6 : c ≠ 93) (h : x.signs[a]? = some (.str (ch c))) (ho : x.out.length < 1000000) :
    Stp K q {x with pos := .ofNat a, state := "CDATA section", wait := false} d n {x with pos := .ofNat (a + 1), state := "CDATA section", wait := false, out := x.out ++ [tChar (ch c)]} n :=
  Stp.of OK (nx (ch c) ++ [.f, .a]) (cN x a (ch c) ++ [(ch c == ch 93) = false, x.out.length < 1000000]) (by kernel_rfl) (Ands.app (cN.ok h) ⟨ch_ne h6, ho, trivial⟩)
theorem s_cb_br (h : x.signs[a]? = some (.str "]")) : Stp K q {x with pos := .ofNat a, state := "CDATA section bracket", wait := false} d n {x with pos := .ofNat (a + 1), state := "CDATA section end", wait := false} n :=
  Stp.of OK (nx "]") (cN x a "]") (by kernel_rfl) (cN.ok h)
theorem s_cb_ch (h6 : c ≠ 93) (h : x.signs[a]? = some (.str (ch c))) (ho : x.out.length < 1000000) :
    Stp K q {x with pos := .ofNat a, state := "CDATA section bracket", wait := false} d n {x with pos := .ofNat a, state := "CDATA section", wait := false, out := x.out ++ [tChar "]"]} n := by
  have h := Stp.of OK (q := q) (x := {x with pos := .ofNat a, state := "CDATA section bracket", wait := false}) (x' := {x with pos := .ofNat (a + 1) - 1, state := "CDATA section", wait := false, out := x.out ++ [tChar "]"]}) (d := d) (n := n) (n' := n)
    (nx (ch c) ++ [.f]) (cN x a (ch c) ++ [(ch c == ch 93) = false, x.out.length < 1000000]) (by kernel_rfl) (Ands.app (cN.ok h) ⟨ch_ne h6, ho, trivial⟩)
  rw [back] at h
  exact h
theorem s_ce_br (h : x.signs[a]? = some (.str "]")) (ho : x.out.length < 1000000) : Stp K q {x with pos := .ofNat a, state := "CDATA section end", wait := false} d n {x with pos := .ofNat (a + 1), state := "CDATA section end", wait := false, out := x.out ++ [tChar "]"]} n :=
  Stp.of OK (nx "]") (cN x a "]" ++ [x.out.length < 1000000]) (by kernel_rfl) (Ands.app (cN.ok h) ⟨ho, trivial⟩)
theorem s_ce_gt (h : x.signs[a]? = some (.str ">")) : Stp K q {x with pos := .ofNat a, state := "CDATA section end", wait := false} d n {x with pos := .ofNat (a + 1), state := "data", wait := false} n :=
  Stp.of OK (nx ">") (cN x a ">") (by kernel_rfl) (cN.ok h)
/-! RCDATA -/
theorem s_rc_lt (h : x.signs[a]? = some (.str "<")) : Stp K q {x with pos := .ofNat a, state := "RCDATA", wait := false} d n {x with pos := .ofNat (a + 1), state := "RCDATA less-than sign", wait := false} n :=
  Stp.of OK (nx "<") (cN x a "<" ++ [21 ≤ 1000000]) (by kernel_rfl) (Ands.app (cN.ok h) ⟨by decide, trivial⟩)
theorem s_rc_ch (hc : c ∈ okC) (h6 : c ≠ 60) (h : x.signs[a]? = some (.str (ch c))) (ho : x.out.length < 1000000) :
    Stp K q {x with pos := .ofNat a, state := "RCDATA", wait := false} d n {x with pos := .ofNat (a + 1), state := "RCDATA", wait := false, out := x.out ++ [tChar (ch c)]} n :=
  Stp.of OK (nx (ch c) ++ [.a, .f, .a, .f, .a, .f]) (cN x a (ch c) ++ [(ch c == ch 38) = false, (ch c == ch 60) = false, (ch c == ch 0) = false, x.out.length < 1000000]) (by kernel_rfl)
    (Ands.app (cN.ok h) ⟨ch_ne (ok_ne hc).2.1, ch_ne h6, ch_ne (ok_ne hc).1, ho, trivial⟩)
theorem s_rc_eof (h : x.signs.length ≤ a) (ho : x.out.length < 1000000) :
    Stp K q {x with pos := .ofNat a, state := "RCDATA", wait := false} d n {x with pos := .ofNat (a + 1), state := "RCDATA", wait := false, done := true, out := x.out ++ [.tup [.str "eof"]]} n :=
  Stp.of OK [.a, .f] [decide (Int.ofNat a < Int.ofNat x.signs.length) = false, x.out.length < 1000000] (by kernel_rfl) ⟨decide_eq_false (fun q => Nat.lt_irrefl _ (Nat.lt_of_lt_of_le (Int.ofNat_lt.mp q) h)), ho, trivial⟩
theorem s_rl_slash (h : x.signs[a]? = some (.str "/")) : Stp K q {x with pos := .ofNat a, state := "RCDATA less-than sign", wait := false} d n {x with pos := .ofNat (a + 1), state := "RCDATA end tag open", wait := false, buf := ""} n :=
  Stp.of OK (nx "/") (cN x a "/" ++ [19 ≤ 1000000]) (by kernel_rfl) (Ands.app (cN.ok h) ⟨by decide, trivial⟩)
theorem s_rl_ch (h6 : c ≠ 47) (h3 : c ≠ 33) (h : x.signs[a]? = some (.str (ch c))) (ho : x.out.length < 1000000) :
    Stp K q {x with pos := .ofNat a, state := "RCDATA less-than sign", wait := false} d n {x with pos := .ofNat a, state := "RCDATA", wait := false, out := x.out ++ [tChar "<"]} n := by
  have h := Stp.of OK (q := q) (x := {x with pos := .ofNat a, state := "RCDATA less-than sign", wait := false}) (x' := {x with pos := .ofNat (a + 1) - 1, state := "RCDATA", wait := false, out := x.out ++ [tChar "<"]}) (d := d) (n := n) (n' := n)
    (nx (ch c) ++ [.f, .f, .a]) (cN x a (ch c) ++ [(ch c == ch 47) = false, (ch c == ch 33) = false, x.out.length < 1000000]) (by kernel_rfl) (Ands.app (cN.ok h) ⟨ch_ne h6, ch_ne h3, ho, trivial⟩)
  rw [back] at h
  exact h
theorem s_rl_bang (h : x.signs[a]? = some (.str "!")) (ho : x.out.length < 1000000) :
    Stp K q {x with pos := .ofNat a, state := "RCDATA less-than sign", wait := false} d n {x with pos := .ofNat a, state := "RCDATA", wait := false, out := x.out ++ [tChar "<"]} n := by
  have h := Stp.of OK (q := q) (x := {x with pos := .ofNat a, state := "RCDATA less-than sign", wait := false}) (x' := {x with pos := .ofNat (a + 1) - 1, state := "RCDATA", wait := false, out := x.out ++ [tChar "<"]}) (d := d) (n := n) (n' := n)
    (nx "!") (cN x a "!" ++ [x.out.length < 1000000]) (by kernel_rfl) (Ands.app (cN.ok h) ⟨ho, trivial⟩)
  rw [back] at h
  exact h
theorem s_re_let (hc : c ∈ letC) (h : x.signs[a]? = some (.str (ch c))) :
    Stp K q {x with pos := .ofNat a, state := "RCDATA end tag open", wait := false} d n {x with pos := .ofNat a, state := "RCDATA end tag name", wait := false, draft := .obj (.n n.length)} (nD n "end" "" "") := by
  have h := Stp.of OK (q := q) (x := {x with pos := .ofNat a, state := "RCDATA end tag open", wait := false}) (x' := {x with pos := .ofNat (a + 1) - 1, state := "RCDATA end tag name", wait := false, draft := .obj (.n n.length)}) (d := d) (n := n) (n' := nD n "end" "" "")
    (nx (ch c) ++ [.c 179 (.bool true) (hp q {x with pos := .ofNat (a+1), state := "RCDATA end tag open", wait := false} d n), .a, .c 659 .none (hp q {x with pos := .ofNat (a+1), state := "RCDATA end tag open", wait := false} d (nD n "end" "" ""))])
    (cN x a (ch c) ++ [ClOK K 30 179 [.str (ch c)] (hp q {x with pos := .ofNat (a+1), state := "RCDATA end tag open", wait := false} d n) (.bool true) (hp q {x with pos := .ofNat (a+1), state := "RCDATA end tag open", wait := false} d n),
      ClOK K 30 659 [.obj (.n n.length), .str "end", .str ""] (hp q {x with pos := .ofNat (a+1), state := "RCDATA end tag open", wait := false} d (n ++ [.inst 697 []])) .none (hp q {x with pos := .ofNat (a+1), state := "RCDATA end tag open", wait := false} d (nD n "end" "" "")), 19 ≤ 1000000]) (by kernel_rfl)
    (Ands.app (cN.ok h) ⟨(letter_ok OK hc _).up (by decide), (draft_init OK "end" "" _ d n).up (by decide), by decide, trivial⟩)
  rw [back] at h
  exact h
theorem s_rn_let (hc : c ∈ letC) (h : x.signs[a]? = some (.str (ch c))) (hl : nm.length ≤ 1000) (hb : x.buf.length ≤ 1000) :
    Stp K q {x with pos := .ofNat a, state := "RCDATA end tag name", wait := false, draft := .obj (.n n.length)} d (nD n k nm tx) {x with pos := .ofNat (a + 1), state := "RCDATA end tag name", wait := false, draft := .obj (.n n.length), buf := x.buf ++ ch c} (nD n k (nm ++ ch (low c)) tx) := by
  have h := Stp.of OK (q := q) (x := {x with pos := .ofNat a, state := "RCDATA end tag name", wait := false, draft := .obj (.n n.length)}) (x' := {x with pos := .ofNat (a + 1), state := "RCDATA end tag name", wait := false, draft := .obj (.n n.length), buf := x.buf ++ ch c}) (d := d) (n := nD n k nm tx)
    (n' := (nD n k nm tx).set n.length (dft k (nm ++ ch (low c)) tx (n.length + 1)))
    (nx (ch c) ++ [.c 179 (.bool true) (hp q {x with pos := .ofNat (a+1), state := "RCDATA end tag name", wait := false, draft := .obj (.n n.length)} d (nD n k nm tx)), .o (dft k nm tx (n.length + 1)), .c 186 (.str (ch (low c))) (hp q {x with pos := .ofNat (a+1), state := "RCDATA end tag name", wait := false, draft := .obj (.n n.length)} d (nD n k nm tx)), .o (dft k nm tx (n.length + 1))])
    (cN x a (ch c) ++ [ClOK K 30 179 [.str (ch c)] (hp q {x with pos := .ofNat (a+1), state := "RCDATA end tag name", wait := false, draft := .obj (.n n.length)} d (nD n k nm tx)) (.bool true) (hp q {x with pos := .ofNat (a+1), state := "RCDATA end tag name", wait := false, draft := .obj (.n n.length)} d (nD n k nm tx)),
      (nD n k nm tx)[n.length]? = some (dft k nm tx (n.length + 1)),
      ClOK K 30 186 [.str (ch c)] (hp q {x with pos := .ofNat (a+1), state := "RCDATA end tag name", wait := false, draft := .obj (.n n.length)} d (nD n k nm tx)) (.str (ch (low c))) (hp q {x with pos := .ofNat (a+1), state := "RCDATA end tag name", wait := false, draft := .obj (.n n.length)} d (nD n k nm tx)),
      nm.length + 1 ≤ 1000000, (nD n k nm tx)[n.length]? = some (dft k nm tx (n.length + 1)), x.buf.length + 1 ≤ 1000000]) (by kernel_rfl)
    (Ands.app (cN.ok h) ⟨(letter_ok OK hc _).up (by decide), nD_get .., (low_ok OK hc _).up (by decide), by omega, nD_get .., by omega, trivial⟩)
  rw [nD_set] at h
  exact h
end
end Mine
end

section
set_option maxRecDepth 100000
set_option autoImplicit false
set_option tactic.hygienic false
namespace Mine
open PySem PySem.W PySem.Calls PyProof.Rows
section
variable {K : Frag} (OK : PrOK K PP) {q : Pre} {x : X} {d n : List AO} {a c : Nat} {nm tx k : Str}
include OK
theorem s_rn_apt (h : x.signs[a]? = some (.str ">")) (ho : x.out.length < 1000000) :
    Stp K q {x with pos := .ofNat a, state := "RCDATA end tag name", wait := false, draft := .obj (.n n.length), last := "t"} d (nD n "end" "t" tx)
      {x with pos := .ofNat (a + 1), state := "data", wait := false, draft := .none, last := "t", out := x.out ++ [tTag "end" "t"]} (nD n "end" "t" tx ++ [.list []]) :=
  have g := nD_get n "end" "t" tx
  have g' := get_app g [.list []]
  Stp.of OK (nx ">" ++ oo 4 (dft "end" "t" tx (n.length + 1)) ++ [.o (.list [])] ++ oo 5 (dft "end" "t" tx (n.length + 1)) ++ [.o (.list [])] ++ oo 2 (dft "end" "t" tx (n.length + 1)) ++ [.o (.list []), .o (dft "end" "t" tx (n.length + 1))])
    (cN x a ">" ++ (List.replicate 4 ((nD n "end" "t" tx)[n.length]? = some (dft "end" "t" tx (n.length + 1))) ++ ([(nD n "end" "t" tx)[n.length + 1]? = some (.list [])] ++ (List.replicate 4 ((nD n "end" "t" tx)[n.length]? = some (dft "end" "t" tx (n.length + 1))) ++
      [(nD n "end" "t" tx ++ [.list []])[n.length]? = some (dft "end" "t" tx (n.length + 1)), (nD n "end" "t" tx ++ [.list []])[n.length + 1]? = some (.list []),
      (nD n "end" "t" tx ++ [.list []])[n.length]? = some (dft "end" "t" tx (n.length + 1)), (nD n "end" "t" tx ++ [.list []])[n.length]? = some (dft "end" "t" tx (n.length + 1)), (nD n "end" "t" tx ++ [.list []])[(nD n "end" "t" tx).length]? = some (.list []),
      (nD n "end" "t" tx ++ [.list []])[n.length]? = some (dft "end" "t" tx (n.length + 1)), x.out.length < 1000000])))) (by kernel_rfl)
    (Ands.app (cN.ok h) (Ands.app (Ands.rep g 4) (Ands.app (a := [_]) ⟨nD_get1 .., trivial⟩ (Ands.app (Ands.rep g 4) ⟨g', get_app (nD_get1 ..) _, g', g', get_len _ _, g', ho, trivial⟩))))
theorem s_rn_no (hc : c = 98 ∨ c = 115) (h : x.signs[a]? = some (.str ">")) (ho : x.out.length < 999990) :
    Stp K q {x with pos := .ofNat a, state := "RCDATA end tag name", wait := false, draft := .obj (.n n.length), last := "t", buf := ch c} d (nD n "end" (ch c) tx)
      {x with pos := .ofNat a, state := "RCDATA", wait := false, draft := .obj (.n n.length), last := "t", buf := ch c, out := x.out ++ [tChar "<", tChar "/", tChar (ch c)]} (nD n "end" (ch c) tx) := by
  have g := nD_get n "end" (ch c) tx
  have e3 : ((x.out ++ [tChar "<"]) ++ [tChar "/"]) ++ [tChar (ch c)] = x.out ++ [tChar "<", tChar "/", tChar (ch c)] := by simp
  rw [← e3]
  rcases hc with rfl | rfl
  · have h := Stp.of OK (q := q) (x := {x with pos := .ofNat a, state := "RCDATA end tag name", wait := false, draft := .obj (.n n.length), last := "t", buf := ch 98}) (x' := {x with pos := .ofNat (a + 1) - 1, state := "RCDATA", wait := false, draft := .obj (.n n.length), last := "t", buf := ch 98, out := x.out ++ [tChar "<"] ++ [tChar "/"] ++ [tChar (ch 98)]}) (d := d) (n := nD n "end" (ch 98) tx) (n' := nD n "end" (ch 98) tx) (nx ">" ++ oo 2 (dft "end" (ch 98) tx (n.length + 1)))
      (cN x a ">" ++ (List.replicate 2 ((nD n "end" (ch 98) tx)[n.length]? = some (dft "end" (ch 98) tx (n.length + 1))) ++ [3 ≤ 1000000, x.out.length < 1000000, (x.out ++ [tChar "<"]).length < 1000000, ((x.out ++ [tChar "<"]) ++ [tChar "/"]).length < 1000000])) (by kernel_rfl)
      (Ands.app (cN.ok h) (Ands.app (Ands.rep g 2) ⟨by decide, by omega, by simp; omega, by simp; omega, trivial⟩))
    rw [back] at h
    exact h
  · have h := Stp.of OK (q := q) (x := {x with pos := .ofNat a, state := "RCDATA end tag name", wait := false, draft := .obj (.n n.length), last := "t", buf := ch 115}) (x' := {x with pos := .ofNat (a + 1) - 1, state := "RCDATA", wait := false, draft := .obj (.n n.length), last := "t", buf := ch 115, out := x.out ++ [tChar "<"] ++ [tChar "/"] ++ [tChar (ch 115)]}) (d := d) (n := nD n "end" (ch 115) tx) (n' := nD n "end" (ch 115) tx) (nx ">" ++ oo 2 (dft "end" (ch 115) tx (n.length + 1)))
      (cN x a ">" ++ (List.replicate 2 ((nD n "end" (ch 115) tx)[n.length]? = some (dft "end" (ch 115) tx (n.length + 1))) ++ [3 ≤ 1000000, x.out.length < 1000000, (x.out ++ [tChar "<"]).length < 1000000, ((x.out ++ [tChar "<"]) ++ [tChar "/"]).length < 1000000])) (by kernel_rfl)
      (Ands.app (cN.ok h) (Ands.app (Ands.rep g 2) ⟨by decide, by omega, by simp; omega, by simp; omega, trivial⟩))
    rw [back] at h
    exact h
theorem s_bog_gt (h : x.signs[a]? = some (.str ">")) (ho : x.out.length < 1000000) :
    Stp K q {x with pos := .ofNat a, state := "bogus comment", wait := false, draft := .obj (.n n.length)} d (nD n "comment" nm tx)
      {x with pos := .ofNat (a + 1), state := "data", wait := false, draft := .none, out := x.out ++ [.tup [.str "comment", .str tx]]} (nD n "comment" nm tx) :=
  have g := nD_get n "comment" nm tx
  Stp.of OK (nx ">" ++ oo 4 (dft "comment" nm tx (n.length + 1)))
    (cN x a ">" ++ (List.replicate 4 ((nD n "comment" nm tx)[n.length]? = some (dft "comment" nm tx (n.length + 1))) ++ [x.out.length < 1000000])) (by kernel_rfl)
    (Ands.app (cN.ok h) (Ands.app (Ands.rep g 4) ⟨ho, trivial⟩))
theorem s_bog_ch (hc : c ∈ okC) (h6 : c ≠ 62) (h : x.signs[a]? = some (.str (ch c))) (hl : tx.length ≤ 1000) :
    Stp K q {x with pos := .ofNat a, state := "bogus comment", wait := false, draft := .obj (.n n.length)} d (nD n k nm tx)
      {x with pos := .ofNat (a + 1), state := "bogus comment", wait := false, draft := .obj (.n n.length)} (nD n k nm (tx ++ ch c)) := by
  have g := nD_get n k nm tx
  have h := Stp.of OK (q := q) (x := {x with pos := .ofNat a, state := "bogus comment", wait := false, draft := .obj (.n n.length)}) (x' := {x with pos := .ofNat (a + 1), state := "bogus comment", wait := false, draft := .obj (.n n.length)}) (d := d) (n := nD n k nm tx)
    (n' := (nD n k nm tx).set n.length (dft k nm (tx ++ ch c) (n.length + 1)))
    (nx (ch c) ++ [.f, .a, .f] ++ oo 2 (dft k nm tx (n.length + 1)))
    (cN x a (ch c) ++ [(ch c == ch 62) = false, (ch c == ch 0) = false, (nD n k nm tx)[n.length]? = some (dft k nm tx (n.length + 1)), tx.length + 1 ≤ 1000000, (nD n k nm tx)[n.length]? = some (dft k nm tx (n.length + 1))]) (by kernel_rfl)
    (Ands.app (cN.ok h) ⟨ch_ne h6, ch_ne (ok_ne hc).1, g, by omega, g, trivial⟩)
  rw [nD_set] at h
  exact h
/-! markup -/
theorem looks_dash (h : x.signs[a]? = some (.str "[")) : ClOK K 20 1025 [gT, .str "--"] (hp q {x with pos := .ofNat a, state := "markup declaration open", wait := false} d n) (.int 0) (hp q {x with pos := .ofNat a, state := "markup declaration open", wait := false} d n) :=
  run_call OK (b := 10) (j := 10) (hs := [.f, .v (.str "[")]) (c := [2 ≤ 1000000, decide (Int.ofNat x.signs.length ≤ Int.ofNat (a + 0)) = false, x.signs[a + 0]? = some (.str "[")]) (hs' := []) (loc' := []) (by kernel_rfl)
    ⟨by decide, decide_eq_false (by have := get_lt h; simp; omega), h, trivial⟩
theorem looks_doc (h : x.signs[a]? = some (.str "[")) : ClOK K 30 1025 [gT, .str "doctype", .bool true] (hp q {x with pos := .ofNat a, state := "markup declaration open", wait := false} d n) (.int 0) (hp q {x with pos := .ofNat a, state := "markup declaration open", wait := false} d n) :=
  run_call OK (b := 10) (j := 20) (hs := [.f, .v (.str "[")]) (c := [7 ≤ 1000000, decide (Int.ofNat x.signs.length ≤ Int.ofNat (a + 0)) = false, x.signs[a + 0]? = some (.str "[")]) (hs' := []) (loc' := []) (by kernel_rfl)
    ⟨by decide, decide_eq_false (by have := get_lt h; simp; omega), h, trivial⟩
end
noncomputable def cdW : List Nat := [91, 67, 68, 65, 84, 65, 91]
noncomputable def lkH (l : List Nat) : List H := l.flatMap fun c => [.f, .v (.str (ch c)), .a, .a]
noncomputable def lkC (x : X) (a : Nat) : Nat → List Nat → List Prop
  | _, [] => []
  | i, c :: r => [decide (Int.ofNat x.signs.length ≤ Int.ofNat (a + i)) = false, x.signs[a + i]? = some (.str (ch c))] ++ lkC x a (i + 1) r
theorem lkC.ok {x : X} {a : Nat} : ∀ {l : List Nat} {i : Nat}, (∀ j c, l[j]? = some c → x.signs[a + (i + j)]? = some (.str (ch c))) → Ands (lkC x a i l)
  | [], _, _ => trivial
  | c :: r, i, h => by
    have h0 : x.signs[a + i]? = some (.str (ch c)) := by have := h 0 c rfl; simpa using this
    refine ⟨decide_eq_false (by have := get_lt h0; simp; omega), h0, lkC.ok fun j c' hj => ?_⟩
    have := h (j + 1) c' (by simpa using hj)
    rw [show i + 1 + j = i + (j + 1) by omega]
    exact this
section
variable {K : Frag} (OK : PrOK K PP) {q : Pre} {x : X} {d n : List AO} {a c : Nat} {nm tx k : Str}
include OK
theorem looks_cd (h : ∀ j c, cdW[j]? = some c → x.signs[a + j]? = some (.str (ch c))) : ClOK K 20 1025 [gT, .str "[CDATA["] (hp q {x with pos := .ofNat a, state := "markup declaration open", wait := false} d n) (.int 1) (hp q {x with pos := .ofNat a, state := "markup declaration open", wait := false} d n) :=
  run_call OK (b := 10) (j := 10) (hs := lkH cdW) (c := [7 ≤ 1000000] ++ lkC x a 0 cdW) (hs' := []) (loc' := []) (by kernel_rfl) (Ands.app (a := [_]) ⟨by decide, trivial⟩ <| lkC.ok fun j c hj => by rw [Nat.zero_add]; exact h j c hj)
theorem looks_short {m : Nat} (hm : m = 1 ∨ m = 2 ∨ m = 3 ∨ m = 4 ∨ m = 5 ∨ m = 6) (h : ∀ j c, (cdW.take m)[j]? = some c → x.signs[a + j]? = some (.str (ch c))) (hl : x.signs.length = a + m) :
    ClOK K 20 1025 [gT, .str "[CDATA["] (hp q {x with pos := .ofNat a, state := "markup declaration open", wait := false, closed := false} d n) (.int (-1)) (hp q {x with pos := .ofNat a, state := "markup declaration open", wait := false, closed := false} d n) := by
  have e : decide (Int.ofNat x.signs.length ≤ Int.ofNat (a + m)) = true := decide_eq_true (by rw [hl]; exact Int.le_refl _)
  rcases hm with rfl | rfl | rfl | rfl | rfl | rfl
  · exact run_call OK (b := 10) (j := 10) (hs := lkH (cdW.take 1) ++ [.t]) (c := [7 ≤ 1000000] ++ (lkC x a 0 (cdW.take 1) ++ [decide (Int.ofNat x.signs.length ≤ Int.ofNat (a + 1)) = true])) (hs' := []) (loc' := []) (by kernel_rfl) (Ands.app (a := [_]) ⟨by decide, trivial⟩ (Ands.app (lkC.ok fun j c hj => by rw [Nat.zero_add]; exact h j c hj) ⟨e, trivial⟩))
  · exact run_call OK (b := 10) (j := 10) (hs := lkH (cdW.take 2) ++ [.t]) (c := [7 ≤ 1000000] ++ (lkC x a 0 (cdW.take 2) ++ [decide (Int.ofNat x.signs.length ≤ Int.ofNat (a + 2)) = true])) (hs' := []) (loc' := []) (by kernel_rfl) (Ands.app (a := [_]) ⟨by decide, trivial⟩ (Ands.app (lkC.ok fun j c hj => by rw [Nat.zero_add]; exact h j c hj) ⟨e, trivial⟩))
  · exact run_call OK (b := 10) (j := 10) (hs := lkH (cdW.take 3) ++ [.t]) (c := [7 ≤ 1000000] ++ (lkC x a 0 (cdW.take 3) ++ [decide (Int.ofNat x.signs.length ≤ Int.ofNat (a + 3)) = true])) (hs' := []) (loc' := []) (by kernel_rfl) (Ands.app (a := [_]) ⟨by decide, trivial⟩ (Ands.app (lkC.ok fun j c hj => by rw [Nat.zero_add]; exact h j c hj) ⟨e, trivial⟩))
  · exact run_call OK (b := 10) (j := 10) (hs := lkH (cdW.take 4) ++ [.t]) (c := [7 ≤ 1000000] ++ (lkC x a 0 (cdW.take 4) ++ [decide (Int.ofNat x.signs.length ≤ Int.ofNat (a + 4)) = true])) (hs' := []) (loc' := []) (by kernel_rfl) (Ands.app (a := [_]) ⟨by decide, trivial⟩ (Ands.app (lkC.ok fun j c hj => by rw [Nat.zero_add]; exact h j c hj) ⟨e, trivial⟩))
  · exact run_call OK (b := 10) (j := 10) (hs := lkH (cdW.take 5) ++ [.t]) (c := [7 ≤ 1000000] ++ (lkC x a 0 (cdW.take 5) ++ [decide (Int.ofNat x.signs.length ≤ Int.ofNat (a + 5)) = true])) (hs' := []) (loc' := []) (by kernel_rfl) (Ands.app (a := [_]) ⟨by decide, trivial⟩ (Ands.app (lkC.ok fun j c hj => by rw [Nat.zero_add]; exact h j c hj) ⟨e, trivial⟩))
  · exact run_call OK (b := 10) (j := 10) (hs := lkH (cdW.take 6) ++ [.t]) (c := [7 ≤ 1000000] ++ (lkC x a 0 (cdW.take 6) ++ [decide (Int.ofNat x.signs.length ≤ Int.ofNat (a + 6)) = true])) (hs' := []) (loc' := []) (by kernel_rfl) (Ands.app (a := [_]) ⟨by decide, trivial⟩ (Ands.app (lkC.ok fun j c hj => by rw [Nat.zero_add]; exact h j c hj) ⟨e, trivial⟩))
end
end Mine
end

section
set_option maxRecDepth 100000
set_option autoImplicit false
set_option tactic.hygienic false
namespace Mine
open PySem PySem.W PySem.Calls PyProof.Rows
theorem back6 (a : Nat) : Int.ofNat (a + 7) - 1 = Int.ofNat (a + 6) := by simp; omega
section
variable {K : Frag} (OK : PrOK K PP) {q : Pre} {x : X} {d n : List AO} {a c : Nat} {nm tx k : Str}
include OK
noncomputable abbrev mkX (x : X) (a : Nat) : X := {x with pos := .ofNat a, state := "markup declaration open", wait := false}
theorem s_mk_for (h : ∀ j c, cdW[j]? = some c → x.signs[a + j]? = some (.str (ch c))) :
    Stp K q (mkX {x with foreign := true} a) d n {x with foreign := true, pos := .ofNat (a + 7), state := "CDATA section", wait := false} n := by
  have h0 : ({x with foreign := true} : X).signs[a]? = some (.str "[") := h 0 91 rfl
  exact Stp.of OK [.c 1025 (.int 0) (hp q (mkX {x with foreign := true} a) d n), .c 1025 (.int 0) (hp q (mkX {x with foreign := true} a) d n), .c 1025 (.int 1) (hp q (mkX {x with foreign := true} a) d n)]
    [ClOK K 30 1025 [gT, .str "--"] (hp q (mkX {x with foreign := true} a) d n) (.int 0) (hp q (mkX {x with foreign := true} a) d n), ClOK K 30 1025 [gT, .str "doctype", .bool true] (hp q (mkX {x with foreign := true} a) d n) (.int 0) (hp q (mkX {x with foreign := true} a) d n),
      ClOK K 30 1025 [gT, .str "[CDATA["] (hp q (mkX {x with foreign := true} a) d n) (.int 1) (hp q (mkX {x with foreign := true} a) d n)] (by kernel_rfl)
    ⟨ClOK.up (k := 30) (looks_dash OK h0) (by decide), looks_doc OK h0, ClOK.up (k := 30) (looks_cd OK h) (by decide), trivial⟩
theorem s_mk_html (h : ∀ j c, cdW[j]? = some c → x.signs[a + j]? = some (.str (ch c))) (he : x.terr.length < 1000000) :
    Stp K q (mkX {x with foreign := false} a) d n {x with foreign := false, pos := .ofNat (a + 7), state := "bogus comment", wait := false, terr := x.terr ++ [gErr (.ofNat (a + 6))], draft := .obj (.n n.length)} (nD n "comment" "" "[CDATA[") := by
  have h0 : ({x with foreign := false} : X).signs[a]? = some (.str "[") := h 0 91 rfl
  have h' := Stp.of OK (q := q) (x := mkX {x with foreign := false} a) (x' := {x with foreign := false, pos := .ofNat (a + 7), state := "bogus comment", wait := false, terr := x.terr ++ [gErr (.ofNat (a + 7) - 1)], draft := .obj (.n n.length)}) (d := d) (n := n)
    (n' := (nD n "comment" "" "").set n.length (dft "comment" "" "[CDATA[" (n.length + 1)))
    [.c 1025 (.int 0) (hp q (mkX {x with foreign := false} a) d n), .c 1025 (.int 0) (hp q (mkX {x with foreign := false} a) d n), .c 1025 (.int 1) (hp q (mkX {x with foreign := false} a) d n),
     .a, .c 659 .none (hp q {x with foreign := false, pos := .ofNat (a + 7), state := "markup declaration open", wait := false, terr := x.terr ++ [gErr (.ofNat (a + 7) - 1)]} d (nD n "comment" "" "")), .o (dft "comment" "" "" (n.length + 1))]
    [ClOK K 30 1025 [gT, .str "--"] (hp q (mkX {x with foreign := false} a) d n) (.int 0) (hp q (mkX {x with foreign := false} a) d n), ClOK K 30 1025 [gT, .str "doctype", .bool true] (hp q (mkX {x with foreign := false} a) d n) (.int 0) (hp q (mkX {x with foreign := false} a) d n),
      ClOK K 30 1025 [gT, .str "[CDATA["] (hp q (mkX {x with foreign := false} a) d n) (.int 1) (hp q (mkX {x with foreign := false} a) d n), x.terr.length < 1000000,
      ClOK K 30 659 [.obj (.n n.length), .str "comment", .str ""] (hp q {x with foreign := false, pos := .ofNat (a + 7), state := "markup declaration open", wait := false, terr := x.terr ++ [gErr (.ofNat (a + 7) - 1)]} d (n ++ [.inst 697 []])) .none (hp q {x with foreign := false, pos := .ofNat (a + 7), state := "markup declaration open", wait := false, terr := x.terr ++ [gErr (.ofNat (a + 7) - 1)]} d (nD n "comment" "" "")),
      (nD n "comment" "" "")[n.length]? = some (dft "comment" "" "" (n.length + 1))] (by kernel_rfl)
    ⟨ClOK.up (k := 30) (looks_dash OK h0) (by decide), looks_doc OK h0, ClOK.up (k := 30) (looks_cd OK h) (by decide), he, ClOK.up (k := 30) (draft_init OK "comment" "" _ d n) (by decide), nD_get .., trivial⟩
  rw [nD_set, back6] at h'
  exact h'
theorem s_mk_wait {m : Nat} (hm : m = 1 ∨ m = 2 ∨ m = 3 ∨ m = 4 ∨ m = 5 ∨ m = 6) (h : ∀ j c, (cdW.take m)[j]? = some c → x.signs[a + j]? = some (.str (ch c))) (hl : x.signs.length = a + m) :
    Stp K q (mkX {x with closed := false} a) d n {x with closed := false, pos := .ofNat a, state := "markup declaration open", wait := true} n := by
  have h0 : ({x with closed := false} : X).signs[a]? = some (.str "[") := h 0 91 (by rcases hm with rfl | rfl | rfl | rfl | rfl | rfl <;> rfl)
  exact Stp.of OK [.c 1025 (.int 0) (hp q (mkX {x with closed := false} a) d n), .c 1025 (.int 0) (hp q (mkX {x with closed := false} a) d n), .c 1025 (.int (-1)) (hp q (mkX {x with closed := false} a) d n), .c 1025 (.int 0) (hp q (mkX {x with closed := false} a) d n), .c 1025 (.int 0) (hp q (mkX {x with closed := false} a) d n), .c 1025 (.int (-1)) (hp q (mkX {x with closed := false} a) d n)]
    ([ClOK K 30 1025 [gT, .str "--"] (hp q (mkX {x with closed := false} a) d n) (.int 0) (hp q (mkX {x with closed := false} a) d n), ClOK K 30 1025 [gT, .str "doctype", .bool true] (hp q (mkX {x with closed := false} a) d n) (.int 0) (hp q (mkX {x with closed := false} a) d n),
      ClOK K 30 1025 [gT, .str "[CDATA["] (hp q (mkX {x with closed := false} a) d n) (.int (-1)) (hp q (mkX {x with closed := false} a) d n), ClOK K 30 1025 [gT, .str "--"] (hp q (mkX {x with closed := false} a) d n) (.int 0) (hp q (mkX {x with closed := false} a) d n), ClOK K 30 1025 [gT, .str "doctype", .bool true] (hp q (mkX {x with closed := false} a) d n) (.int 0) (hp q (mkX {x with closed := false} a) d n),
      ClOK K 30 1025 [gT, .str "[CDATA["] (hp q (mkX {x with closed := false} a) d n) (.int (-1)) (hp q (mkX {x with closed := false} a) d n)]) (by kernel_rfl)
    ⟨ClOK.up (k := 30) (looks_dash OK h0) (by decide), looks_doc OK h0, ClOK.up (k := 30) (looks_short OK hm h hl) (by decide), ClOK.up (k := 30) (looks_dash OK h0) (by decide), looks_doc OK h0, ClOK.up (k := 30) (looks_short OK hm h hl) (by decide), trivial⟩
end
end Mine
end

section
set_option maxRecDepth 100000
set_option autoImplicit false
set_option tactic.hygienic false
namespace Mine
open PySem PySem.W PySem.Calls PyProof.Rows

/-! ## the builder's parts -/
noncomputable def whT : Stmt → Expr
  | .While t _ _ _ => t
  | _ => .Constant .none 0 default
noncomputable def whB : Stmt → List Stmt
  | .While _ b _ _ => b
  | .For _ _ b _ _ => b
  | _ => []
noncomputable def stAt (l : List Stmt) (k : Nat) : Stmt := (l[k]?).getD (.Pass default)
noncomputable def stPos : Stmt → Pos
  | .While _ _ _ p => p
  | .For _ _ _ _ p => p
  | _ => default

/-- who stands above -/
inductive PA (ps : List GV) : Int → List GV → Prop
  | nil : PA ps (-1) []
  | cons {u : Nat} {v : Int} {xs : List GV} : ps[u]? = some (.int v) → PA ps v xs → PA ps (.ofNat u) (.int (.ofNat u) :: xs)

noncomputable def abF : FI := fiOf (topAt 27) []
noncomputable def abW : Stmt := stAt abF.body 2
section
variable {K : Frag} (OK : PrOK K PP) {q : Pre} {x : X} {d n : List AO}
include OK
theorem above_turns {u : Int} {xs : List GV} (h : PA x.parents u xs) : ∀ ys : List GV, ys.length + xs.length < 1000000 →
    WhOK K 10 abF.scope (whT abW) (whB abW) [("up", .int u), ("out", .obj (.n n.length)), ("tree", .obj (.c 6))] (hp q x d (n ++ [.list ys])) .nxt [("up", .int (-1)), ("out", .obj (.n n.length)), ("tree", .obj (.c 6))] (hp q x d (n ++ [.list (ys ++ xs)])) := by
  induction h with
  | nil =>
    intro ys _
    rw [List.append_nil]
    exact .done (run_ts OK (b := 0) (j := 10) (hs := []) (c := []) (hs' := []) (loc' := [("up", .int (-1)), ("out", .obj (.n n.length)), ("tree", .obj (.c 6))]) (by kernel_rfl) trivial)
  | @cons u v xs hv _ ih =>
    intro ys hl
    have h1 : TsOK K 10 abF.scope (whT abW) [("up", .int (.ofNat u)), ("out", .obj (.n n.length)), ("tree", .obj (.c 6))] (hp q x d (n ++ [.list ys])) true (hp q x d (n ++ [.list ys])) :=
      run_ts OK (b := 0) (j := 10) (hs := []) (c := []) (hs' := []) (loc' := [("up", .int (.ofNat u)), ("out", .obj (.n n.length)), ("tree", .obj (.c 6))]) (by kernel_rfl) trivial
    have h2 : ExOK K 10 abF.scope (whB abW) [("up", .int (.ofNat u)), ("out", .obj (.n n.length)), ("tree", .obj (.c 6))] (hp q x d (n ++ [.list ys])) .nxt [("up", .int v), ("up", .int (.ofNat u)), ("out", .obj (.n n.length)), ("tree", .obj (.c 6))] (hp q x d ((n ++ [AO.list ys]).set n.length (AO.list (ys ++ [GV.int (Int.ofNat u)])))) :=
      run_ex OK (b := 0) (j := 10) (hs := [.o (.list ys), .o (.list ys), .v (.int v)]) (c := [(n ++ [AO.list ys])[n.length]? = some (.list ys), (n ++ [AO.list ys])[n.length]? = some (.list ys), ys.length < 1000000, x.parents[u]? = some (.int v)]) (hs' := []) (by kernel_rfl)
        ⟨get_len _ _, get_len _ _, by simp at hl; omega, hv, trivial⟩
    rw [set_len] at h2
    have h3 := ih (ys ++ [.int (.ofNat u)]) (by simp at hl ⊢; omega)
    rw [List.append_assoc, List.singleton_append] at h3
    exact .nxt h1 (h2.post (loc2 := [("up", .int v), ("out", .obj (.n n.length)), ("tree", .obj (.c 6))]) ⟨by kernel_rfl, by kernel_rfl, by kernel_rfl, trivial⟩) h3
theorem above_ok {p : Nat} {v : Int} {xs : List GV} (hp' : x.parents[p]? = some (.int v)) (h : PA x.parents v xs) (hl : xs.length < 1000000) :
    ClOK K 20 464 [.obj (.c 6), .int (.ofNat p)] (hp q x d n) (.obj (.n n.length)) (hp q x d (n ++ [.list xs])) := by
  have W : StOK K 10 abF.scope (.While (whT abW) (whB abW) [] (stPos abW)) _ _ _ _ _ := (above_turns OK (q := q) (x := x) (d := d) (n := n) h [] (by simpa using hl)).stmt
  have W' : StOK K 10 abF.scope (.While (whT abW) (whB abW) [] (stPos abW)) [("up", .int v), ("out", .obj (.n n.length)), ("tree", .obj (.c 6)), ("node", .int (.ofNat p))] (hp q x d (n ++ [.list []])) .nxt [("up", .int (-1)), ("out", .obj (.n n.length)), ("tree", .obj (.c 6))] (hp q x d (n ++ [.list xs])) :=
    StOK.pre W ⟨by kernel_rfl, by kernel_rfl, by kernel_rfl, trivial⟩
  exact run_call OK (b := 10) (j := 10) (hs := [.v (.int v), .w .nxt [("up", .int (-1)), ("out", .obj (.n n.length)), ("tree", .obj (.c 6))] (hp q x d (n ++ [.list xs]))]) (hs' := []) (loc' := [])
    (c := [x.parents[p]? = some (.int v), StOK K 10 abF.scope (.While (whT abW) (whB abW) [] (stPos abW)) [("up", .int v), ("out", .obj (.n n.length)), ("tree", .obj (.c 6)), ("node", .int (.ofNat p))] (hp q x d (n ++ [.list []])) .nxt [("up", .int (-1)), ("out", .obj (.n n.length)), ("tree", .obj (.c 6))] (hp q x d (n ++ [.list xs]))])
    (by kernel_rfl) ⟨hp', W', trivial⟩
end
end Mine
end

section
set_option maxRecDepth 100000
set_option autoImplicit false
set_option tactic.hygienic false
namespace Mine
open PySem PySem.W PySem.Calls PyProof.Rows

noncomputable abbrev gTree : GV := .obj (.c 6)
noncomputable def IsCur (x : X) (t : Nat) : Prop := x.items[x.items.length - 1]? = some (.int (.ofNat t))
noncomputable def curH (x : X) (t : Nat) : List H := [.f, .i (.ofNat (x.items.length - 1)), .v (.int (.ofNat t))]
noncomputable def curC (x : X) (t : Nat) : List Prop := [(Int.ofNat x.items.length == 0) = false, Int.ofNat x.items.length - 1 = Int.ofNat (x.items.length - 1), x.items[x.items.length - 1]? = some (.int (.ofNat t))]
theorem IsCur.pos {x : X} {t : Nat} (h : IsCur x t) : 0 < x.items.length := by
  have := get_lt h; omega
theorem curC.ok {x : X} {t : Nat} (h : IsCur x t) : Ands (curC x t) := by
  have := h.pos
  refine ⟨beq_eq_false_iff_ne.mpr fun e => ?_, ?_, h, trivial⟩
  · have e : (x.items.length : Int) = 0 := e
    omega
  · show (x.items.length : Int) - 1 = ((x.items.length - 1 : Nat) : Int); omega
/-- the tree's lists are of one length -/
structure Ln (x : X) (L : Nat) : Prop where
  k : x.kinds.length = L
  s : x.spaces.length = L
  n : x.names.length = L
  a : x.attrs.length = L
  t : x.texts.length = L
  p : x.parents.length = L
  c : x.kids.length = L
  z : L < 900000
noncomputable def addX (x : X) (k : Nat) (a b c e : Str) : X := {x with kinds := x.kinds ++ [.str a], spaces := x.spaces ++ [.str b], names := x.names ++ [.str c], attrs := x.attrs ++ [.obj (.d k)], texts := x.texts ++ [.str e], parents := x.parents ++ [.int (-1)], kids := x.kids ++ [.obj (.d (k + 1))]}
section
variable {K : Frag} (OK : PrOK K PP) {q : Pre} {x : X} {d n : List AO} {L t p nd i m : Nat} {sp nm kd s sg : Str} {v : Int} {xs ys zs : List GV}
include OK
theorem cur_ok (h : IsCur x t) : ClOK K 10 270 [.obj (.c 15)] (hp q x d n) (.int (.ofNat t)) (hp q x d n) :=
  run_call OK (b := 0) (j := 10) (hs := curH x t) (c := curC x t) (hs' := []) (loc' := []) (by kernel_rfl) (curC.ok h)
/-- is the current node foreign -/
theorem for_ok (h : IsCur x t) (hs : x.spaces[t]? = some (.str sp)) (hsp : sp = "svg" ∨ sp = "html") : ClOK K 20 528 [gB] (hp q x d n) (.bool (sp == "svg")) (hp q x d n) := by
  by_cases h1 : x.items.length = 1
  · have e1 : (Int.ofNat x.items.length == 1) = true := by rw [h1]; rfl
    rcases hsp with rfl | rfl
    · exact run_call OK (b := 0) (j := 20) (hs := [.t, .a, .a] ++ curH x t ++ [.a, .v (.str "svg")]) (c := [(Int.ofNat x.items.length == 1) = true] ++ (curC x t ++ [x.spaces[t]? = some (.str "svg")])) (hs' := []) (loc' := []) (by kernel_rfl) (Ands.app (a := [_]) ⟨e1, trivial⟩ (Ands.app (curC.ok h) ⟨hs, trivial⟩))
    · exact run_call OK (b := 0) (j := 20) (hs := [.t, .a, .a] ++ curH x t ++ [.a, .v (.str "html")]) (c := [(Int.ofNat x.items.length == 1) = true] ++ (curC x t ++ [x.spaces[t]? = some (.str "html")])) (hs' := []) (loc' := []) (by kernel_rfl) (Ands.app (a := [_]) ⟨e1, trivial⟩ (Ands.app (curC.ok h) ⟨hs, trivial⟩))
  · have e1 : (Int.ofNat x.items.length == 1) = false := by
      rw [beq_eq_false_iff_ne]; intro e; exact h1 (Int.ofNat.inj e)
    rcases hsp with rfl | rfl
    · exact run_call OK (b := 0) (j := 20) (hs := [.f, .a] ++ curH x t ++ [.a, .v (.str "svg")]) (c := [(Int.ofNat x.items.length == 1) = false] ++ (curC x t ++ [x.spaces[t]? = some (.str "svg")])) (hs' := []) (loc' := []) (by kernel_rfl) (Ands.app (a := [_]) ⟨e1, trivial⟩ (Ands.app (curC.ok h) ⟨hs, trivial⟩))
    · exact run_call OK (b := 0) (j := 20) (hs := [.f, .a] ++ curH x t ++ [.a, .v (.str "html")]) (c := [(Int.ofNat x.items.length == 1) = false] ++ (curC x t ++ [x.spaces[t]? = some (.str "html")])) (hs' := []) (loc' := []) (by kernel_rfl) (Ands.app (a := [_]) ⟨e1, trivial⟩ (Ands.app (curC.ok h) ⟨hs, trivial⟩))
theorem place_ok (h : IsCur x t) : ClOK K 20 578 [gB] (hp q x d n) (.tup [.int (.ofNat t), .int (-1)]) (hp q x d n) :=
  run_call OK (b := 0) (j := 20) (hs := [.a] ++ curH x t) (c := curC x t) (hs' := []) (loc' := []) (by kernel_rfl) (curC.ok h)
theorem add_ok (h : Ln x L) : ClOK K 10 363 [gTree, .str kd, .str sp, .str nm, .tup [], .str s] (hp q x d n) (.int (.ofNat L)) (hp q (addX x d.length kd sp nm s) (d ++ [.list [], .list []]) n) := by
  have z := h.z
  have e := run_call OK (b := 0) (j := 10) (f := 363) (ga := [gTree, .str kd, .str sp, .str nm, .tup [], .str s]) (ah := hp q x d n) (g := .int (.ofNat L)) (ah' := hp q (addX x d.length kd sp nm s) ((d ++ [.list []]) ++ [.list []]) n) (hs' := []) (loc' := [])
    (hs := [.p .d, .q .d (d.length + 1), .i (.ofNat L)])
    (c := [x.kinds.length < 1000000, x.spaces.length < 1000000, x.names.length < 1000000, x.attrs.length < 1000000, x.texts.length < 1000000, x.parents.length < 1000000, Rf.d (d ++ [AO.list []]).length = Rf.d (d.length + 1), x.kids.length < 1000000, Int.ofNat (x.kinds ++ [GV.str kd]).length - 1 = Int.ofNat L]) (by kernel_rfl)
    ⟨by rw [h.k]; omega, by rw [h.s]; omega, by rw [h.n]; omega, by rw [h.a]; omega, by rw [h.t]; omega, by rw [h.p]; omega, by simp, by rw [h.c]; omega, by simp [h.k], trivial⟩
  rw [List.append_assoc] at e
  exact e
theorem insert_ok (hne : nd ≠ p) (hp' : x.parents[p]? = some (.int v)) (ha : PA x.parents v xs) (hm : memI (Int.ofNat nd) xs = some false) (hxl : xs.length < 900000) (hn : x.parents[nd]? = some (.int (-1))) (hk : x.kids[p]? = some (.obj (.d i))) (hd : d[i]? = some (.list ys)) (hl : ys.length < 900000) :
    ClOK K 50 401 [gTree, .int (.ofNat p), .int (.ofNat nd), .int (-1)] (hp q x d n) .none (hp q {x with parents := x.parents.set nd (.int (.ofNat p))} (d.set i (.list (ys ++ [.int (.ofNat nd)]))) (n ++ [.list xs])) :=
  run_call OK (b := 30) (j := 20) (hs := [.f, .c 464 (.obj (.n n.length)) (hp q x d (n ++ [.list xs])), .o (.list xs), .m false, .v (.int (-1)), .v (.obj (.d i)), .o (.list ys), .v (.obj (.d i)), .o (.list ys), .o (.list ys)])
    (c := [(Int.ofNat nd == Int.ofNat p) = false, ClOK K 30 464 [gTree, .int (.ofNat p)] (hp q x d n) (.obj (.n n.length)) (hp q x d (n ++ [.list xs])), (n ++ [AO.list xs])[n.length]? = some (.list xs), memI (Int.ofNat nd) xs = some false, x.parents[nd]? = some (.int (-1)),
      x.kids[p]? = some (.obj (.d i)), d[i]? = some (.list ys), x.kids[p]? = some (.obj (.d i)), d[i]? = some (.list ys), d[i]? = some (.list ys), ys.length < 1000000, Int.ofNat ys.length = Int.ofNat ys.length, nd < x.parents.length]) (hs' := []) (loc' := []) (by kernel_rfl)
    ⟨by rw [beq_eq_false_iff_ne]; intro e; exact hne (Int.ofNat.inj e), ClOK.up (k := 30) (above_ok OK hp' ha (by omega)) (by decide), get_len _ _, hm, hn, hk, hd, hk, hd, hd, by omega, rfl, get_lt hn, trivial⟩
end
end Mine
end

section
set_option maxRecDepth 100000
set_option autoImplicit false
set_option tactic.hygienic false
namespace Mine
open PySem PySem.W PySem.Calls PyProof.Rows

structure Par (x : X) (d : List AO) (L p i : Nat) (ys : List GV) (v : Int) (xs : List GV) : Prop where
  ln : Ln x L
  pv : x.parents[p]? = some (.int v)
  pa : PA x.parents v xs
  mm : memI (.ofNat L) xs = some false
  xl : xs.length < 900000
  kd : x.kids[p]? = some (.obj (.d i))
  dd : d[i]? = some (.list ys)
  yl : ys.length < 900000
theorem PA.app {ps qs : List GV} {u : Int} {xs : List GV} (h : PA ps u xs) : PA (ps ++ qs) u xs := by
  induction h with
  | nil => exact .nil
  | cons a _ ih => exact .cons (get_app a _) ih
noncomputable def newX (x : X) (k : Nat) (a b c e : Str) (p : Nat) : X := {x with kinds := x.kinds ++ [.str a], spaces := x.spaces ++ [.str b], names := x.names ++ [.str c], attrs := x.attrs ++ [.obj (.d k)], texts := x.texts ++ [.str e], parents := x.parents ++ [.int (.ofNat p)], kids := x.kids ++ [.obj (.d (k + 1))]}
noncomputable def dPut (d : List AO) (i : Nat) (ys : List GV) (L : Nat) : List AO := (d ++ [AO.list [], AO.list []]).set i (AO.list (ys ++ [GV.int (Int.ofNat L)]))
section
variable {K : Frag} (OK : PrOK K PP) {q : Pre} {x : X} {d n : List AO} {L t p nd i m : Nat} {a b c e sp nm kd s sg : Str} {v : Int} {xs ys zs : List GV}
include OK
theorem ins_ok (h : Par x d L p i ys v xs) : ClOK K 50 401 [gTree, .int (.ofNat p), .int (.ofNat L), .int (-1)] (hp q (addX x d.length a b c e) (d ++ [.list [], .list []]) n) .none (hp q (newX x d.length a b c e p) (dPut d i ys L) (n ++ [.list xs])) := by
  have hl := get_lt h.pv
  rw [h.ln.p] at hl
  have r := insert_ok OK (q := q) (x := addX x d.length a b c e) (d := d ++ [.list [], .list []]) (n := n) (nd := L) (p := p) (v := v) (xs := xs) (i := i) (ys := ys) (by omega) (get_app h.pv _) h.pa.app h.mm h.xl
    (by show (x.parents ++ [GV.int (-1)])[L]? = _; rw [← h.ln.p, get_len]) (get_app h.kd _) (get_app h.dd _) h.yl
  have e1 : (addX x d.length a b c e).parents.set L (.int (.ofNat p)) = x.parents ++ [.int (.ofNat p)] := by
    show (x.parents ++ [GV.int (-1)]).set L _ = _
    rw [← h.ln.p, set_len]
  rw [e1] at r
  exact r
theorem last_none (hk : x.kids[p]? = some (.obj (.d i))) (hd : d[i]? = some (.list [])) : ClOK K 10 436 [gTree, .int (.ofNat p)] (hp q x d n) (.int (-1)) (hp q x d n) :=
  run_call OK (b := 0) (j := 10) (hs := [.v (.obj (.d i)), .o (.list [])]) (c := [x.kids[p]? = some (.obj (.d i)), d[i]? = some (.list [])]) (hs' := []) (loc' := []) (by kernel_rfl) ⟨hk, hd, trivial⟩
theorem last_some (hk : x.kids[p]? = some (.obj (.d i))) (hd : d[i]? = some (.list (zs ++ [.int (.ofNat m)]))) : ClOK K 10 436 [gTree, .int (.ofNat p)] (hp q x d n) (.int (.ofNat m)) (hp q x d n) :=
  run_call OK (b := 0) (j := 10) (hs := [.v (.obj (.d i)), .o (.list (zs ++ [.int (.ofNat m)])), .f, .v (.obj (.d i)), .o (.list (zs ++ [.int (.ofNat m)])), .l zs (.int (.ofNat m))])
    (c := [x.kids[p]? = some (.obj (.d i)), d[i]? = some (.list (zs ++ [.int (.ofNat m)])), (!(!(zs ++ [GV.int (.ofNat m)]).isEmpty)) = false, x.kids[p]? = some (.obj (.d i)), d[i]? = some (.list (zs ++ [.int (.ofNat m)])), zs ++ [GV.int (.ofNat m)] = zs ++ [GV.int (.ofNat m)]]) (hs' := []) (loc' := []) (by kernel_rfl)
    ⟨hk, hd, by cases zs <;> rfl, hk, hd, rfl, trivial⟩
/-- a sign behind a text -/
theorem sign_app (h : IsCur x t) (ht : x.kinds[t]? = some (.str "element")) (hk : x.kids[t]? = some (.obj (.d i))) (hd : d[i]? = some (.list (zs ++ [.int (.ofNat m)]))) (hm : x.kinds[m]? = some (.str "text")) (hx : x.texts[m]? = some (.str s)) (hl : s.length + sg.length ≤ 1000000) :
    ClOK K 40 585 [gB, .str sg] (hp q x d n) .none (hp q {x with texts := x.texts.set m (.str (s ++ sg))} d n) :=
  run_call OK (b := 20) (j := 20) (hs := [.c 578 (.tup [.int (.ofNat t), .int (-1)]) (hp q x d n), .v (.str "element"), .c 436 (.int (.ofNat m)) (hp q x d n), .v (.str "text"), .v (.str s)])
    (c := [ClOK K 20 578 [gB] (hp q x d n) (.tup [.int (.ofNat t), .int (-1)]) (hp q x d n), x.kinds[t]? = some (.str "element"), ClOK K 20 436 [gTree, .int (.ofNat t)] (hp q x d n) (.int (.ofNat m)) (hp q x d n), x.kinds[m]? = some (.str "text"), x.texts[m]? = some (.str s), s.length + sg.length ≤ 1000000, m < x.texts.length]) (hs' := []) (loc' := []) (by kernel_rfl)
    ⟨place_ok OK h, ht, ClOK.up (k := 20) (last_some OK hk hd) (by decide), hm, hx, hl, get_lt hx, trivial⟩
/-- a sign in a new text -/
theorem sign_new0 (h : IsCur x t) (ht : x.kinds[t]? = some (.str "element")) (hp' : Par x d L t i [] v xs) :
    ClOK K 80 585 [gB, .str sg] (hp q x d n) .none (hp q (newX x d.length "text" "" "" sg t) (dPut d i [] L) (n ++ [.list xs])) :=
  run_call OK (b := 50) (j := 30) (hs := [.c 578 (.tup [.int (.ofNat t), .int (-1)]) (hp q x d n), .v (.str "element"), .c 436 (.int (-1)) (hp q x d n), .c 363 (.int (.ofNat L)) (hp q (addX x d.length "text" "" "" sg) (d ++ [.list [], .list []]) n), .c 401 .none (hp q (newX x d.length "text" "" "" sg t) (dPut d i [] L) (n ++ [.list xs]))])
    (c := [ClOK K 50 578 [gB] (hp q x d n) (.tup [.int (.ofNat t), .int (-1)]) (hp q x d n), x.kinds[t]? = some (.str "element"), ClOK K 50 436 [gTree, .int (.ofNat t)] (hp q x d n) (.int (-1)) (hp q x d n),
      ClOK K 50 363 [gTree, .str "text", .str "", .str "", .tup [], .str sg] (hp q x d n) (.int (.ofNat L)) (hp q (addX x d.length "text" "" "" sg) (d ++ [.list [], .list []]) n),
      ClOK K 50 401 [gTree, .int (.ofNat t), .int (.ofNat L), .int (-1)] (hp q (addX x d.length "text" "" "" sg) (d ++ [.list [], .list []]) n) .none (hp q (newX x d.length "text" "" "" sg t) (dPut d i [] L) (n ++ [.list xs]))]) (hs' := []) (loc' := []) (by kernel_rfl)
    ⟨ClOK.up (k := 50) (place_ok OK h) (by decide), ht, ClOK.up (k := 50) (last_none OK hp'.kd hp'.dd) (by decide), ClOK.up (k := 50) (add_ok OK hp'.ln) (by decide), ins_ok OK hp', trivial⟩
theorem sign_new1 (h : IsCur x t) (ht : x.kinds[t]? = some (.str "element")) (hp' : Par x d L t i (zs ++ [.int (.ofNat m)]) v xs) (hm : x.kinds[m]? = some (.str kd)) (hkd : kd = "element" ∨ kd = "comment") :
    ClOK K 80 585 [gB, .str sg] (hp q x d n) .none (hp q (newX x d.length "text" "" "" sg t) (dPut d i (zs ++ [.int (.ofNat m)]) L) (n ++ [.list xs])) := by
  have A : Ands [ClOK K 50 578 [gB] (hp q x d n) (.tup [.int (.ofNat t), .int (-1)]) (hp q x d n), x.kinds[t]? = some (.str "element"), ClOK K 50 436 [gTree, .int (.ofNat t)] (hp q x d n) (.int (.ofNat m)) (hp q x d n), x.kinds[m]? = some (.str kd),
      ClOK K 50 363 [gTree, .str "text", .str "", .str "", .tup [], .str sg] (hp q x d n) (.int (.ofNat L)) (hp q (addX x d.length "text" "" "" sg) (d ++ [.list [], .list []]) n),
      ClOK K 50 401 [gTree, .int (.ofNat t), .int (.ofNat L), .int (-1)] (hp q (addX x d.length "text" "" "" sg) (d ++ [.list [], .list []]) n) .none (hp q (newX x d.length "text" "" "" sg t) (dPut d i (zs ++ [.int (.ofNat m)]) L) (n ++ [.list xs]))] :=
    ⟨ClOK.up (k := 50) (place_ok OK h) (by decide), ht, ClOK.up (k := 50) (last_some OK hp'.kd hp'.dd) (by decide), hm, ClOK.up (k := 50) (add_ok OK hp'.ln) (by decide), ins_ok OK hp', trivial⟩
  rcases hkd with rfl | rfl
  · exact run_call OK (b := 50) (j := 30) (hs := [.c 578 (.tup [.int (.ofNat t), .int (-1)]) (hp q x d n), .v (.str "element"), .c 436 (.int (.ofNat m)) (hp q x d n), .v (.str "element"), .c 363 (.int (.ofNat L)) (hp q (addX x d.length "text" "" "" sg) (d ++ [.list [], .list []]) n), .c 401 .none (hp q (newX x d.length "text" "" "" sg t) (dPut d i (zs ++ [.int (.ofNat m)]) L) (n ++ [.list xs]))])
      (hs' := []) (loc' := []) (by kernel_rfl) A
  · exact run_call OK (b := 50) (j := 30) (hs := [.c 578 (.tup [.int (.ofNat t), .int (-1)]) (hp q x d n), .v (.str "element"), .c 436 (.int (.ofNat m)) (hp q x d n), .v (.str "comment"), .c 363 (.int (.ofNat L)) (hp q (addX x d.length "text" "" "" sg) (d ++ [.list [], .list []]) n), .c 401 .none (hp q (newX x d.length "text" "" "" sg t) (dPut d i (zs ++ [.int (.ofNat m)]) L) (n ++ [.list xs]))])
      (hs' := []) (loc' := []) (by kernel_rfl) A
theorem comment_ok (h : IsCur x t) (hp' : Par x d L t i ys v xs) :
    ClOK K 80 593 [gB, .str sg] (hp q x d n) .none (hp q (newX x d.length "comment" "" "" sg t) (dPut d i ys L) (n ++ [.list xs])) :=
  run_call OK (b := 50) (j := 30) (hs := [.a, .c 578 (.tup [.int (.ofNat t), .int (-1)]) (hp q x d n), .c 363 (.int (.ofNat L)) (hp q (addX x d.length "comment" "" "" sg) (d ++ [.list [], .list []]) n), .c 401 .none (hp q (newX x d.length "comment" "" "" sg t) (dPut d i ys L) (n ++ [.list xs]))])
    (c := [ClOK K 50 578 [gB] (hp q x d n) (.tup [.int (.ofNat t), .int (-1)]) (hp q x d n),
      ClOK K 50 363 [gTree, .str "comment", .str "", .str "", .tup [], .str sg] (hp q x d n) (.int (.ofNat L)) (hp q (addX x d.length "comment" "" "" sg) (d ++ [.list [], .list []]) n),
      ClOK K 50 401 [gTree, .int (.ofNat t), .int (.ofNat L), .int (-1)] (hp q (addX x d.length "comment" "" "" sg) (d ++ [.list [], .list []]) n) .none (hp q (newX x d.length "comment" "" "" sg t) (dPut d i ys L) (n ++ [.list xs]))]) (hs' := []) (loc' := []) (by kernel_rfl)
    ⟨ClOK.up (k := 50) (place_ok OK h) (by decide), ClOK.up (k := 50) (add_ok OK hp'.ln) (by decide), ins_ok OK hp', trivial⟩
end
end Mine
end

section
set_option maxRecDepth 100000
set_option autoImplicit false
set_option tactic.hygienic false
namespace Mine
open PySem PySem.W PySem.Calls PyProof.Rows

section
variable {K : Frag} (OK : PrOK K PP) {q : Pre} {x : X} {d n : List AO} {L t p nd i m : Nat} {a b c e sp nm kd s sg : Str} {v : Int} {xs ys zs : List GV} {g : GV}
include OK
theorem add_ok5 (h : Ln x L) : ClOK K 10 363 [gTree, .str kd, .str sp, .str nm, .tup []] (hp q x d n) (.int (.ofNat L)) (hp q (addX x d.length kd sp nm "") (d ++ [.list [], .list []]) n) := by
  have z := h.z
  have e := run_call OK (b := 0) (j := 10) (f := 363) (ga := [gTree, .str kd, .str sp, .str nm, .tup []]) (ah := hp q x d n) (g := .int (.ofNat L)) (ah' := hp q (addX x d.length kd sp nm "") ((d ++ [.list []]) ++ [.list []]) n) (hs' := []) (loc' := [])
    (hs := [.p .d, .q .d (d.length + 1), .i (.ofNat L)])
    (c := [x.kinds.length < 1000000, x.spaces.length < 1000000, x.names.length < 1000000, x.attrs.length < 1000000, x.texts.length < 1000000, x.parents.length < 1000000, Rf.d (d ++ [AO.list []]).length = Rf.d (d.length + 1), x.kids.length < 1000000, Int.ofNat (x.kinds ++ [GV.str kd]).length - 1 = Int.ofNat L]) (by kernel_rfl)
    ⟨by rw [h.k]; omega, by rw [h.s]; omega, by rw [h.n]; omega, by rw [h.a]; omega, by rw [h.t]; omega, by rw [h.p]; omega, by simp, by rw [h.c]; omega, by simp [h.k], trivial⟩
  rw [List.append_assoc] at e
  exact e
noncomputable def elX (x : X) (k : Nat) (sp nm : Str) (p L : Nat) : X := {newX x k "element" sp nm "" p with items := x.items ++ [.int (.ofNat L)]}
theorem elem_svg (h : IsCur x t) (hp' : Par x d L t i ys v xs) (hl : x.items.length < 1000000) :
    ClOK K 90 610 [gB, .str nm, .tup [], .str "svg"] (hp q x d n) (.int (.ofNat L)) (hp q (elX x d.length "svg" nm t L) (dPut d i ys L) (n ++ [.list xs])) :=
  run_call OK (b := 50) (j := 40) (hs := [.c 578 (.tup [.int (.ofNat t), .int (-1)]) (hp q x d n), .c 363 (.int (.ofNat L)) (hp q (addX x d.length "element" "svg" nm "") (d ++ [.list [], .list []]) n), .a, .a, .c 401 .none (hp q (newX x d.length "element" "svg" nm "" t) (dPut d i ys L) (n ++ [.list xs]))])
    (c := [ClOK K 50 578 [gB] (hp q x d n) (.tup [.int (.ofNat t), .int (-1)]) (hp q x d n),
      ClOK K 50 363 [gTree, .str "element", .str "svg", .str nm, .tup []] (hp q x d n) (.int (.ofNat L)) (hp q (addX x d.length "element" "svg" nm "") (d ++ [.list [], .list []]) n),
      ClOK K 50 401 [gTree, .int (.ofNat t), .int (.ofNat L), .int (-1)] (hp q (addX x d.length "element" "svg" nm "") (d ++ [.list [], .list []]) n) .none (hp q (newX x d.length "element" "svg" nm "" t) (dPut d i ys L) (n ++ [.list xs])), x.items.length < 1000000]) (hs' := []) (loc' := []) (by kernel_rfl)
    ⟨ClOK.up (k := 50) (place_ok OK h) (by decide), ClOK.up (k := 50) (add_ok5 OK hp'.ln) (by decide), ins_ok OK hp', hl, trivial⟩
theorem elem_html (h : IsCur x t) (hp' : Par x d L t i ys v xs) (hl : x.items.length < 1000000) (hn : (nm == "template") = false) :
    ClOK K 90 610 [gB, .str nm, .tup [], .str "html"] (hp q x d n) (.int (.ofNat L)) (hp q (elX x d.length "html" nm t L) (dPut d i ys L) (n ++ [.list xs])) :=
  run_call OK (b := 50) (j := 40) (hs := [.c 578 (.tup [.int (.ofNat t), .int (-1)]) (hp q x d n), .c 363 (.int (.ofNat L)) (hp q (addX x d.length "element" "html" nm "") (d ++ [.list [], .list []]) n), .a, .f, .a, .c 401 .none (hp q (newX x d.length "element" "html" nm "" t) (dPut d i ys L) (n ++ [.list xs]))])
    (c := [ClOK K 50 578 [gB] (hp q x d n) (.tup [.int (.ofNat t), .int (-1)]) (hp q x d n),
      ClOK K 50 363 [gTree, .str "element", .str "html", .str nm, .tup []] (hp q x d n) (.int (.ofNat L)) (hp q (addX x d.length "element" "html" nm "") (d ++ [.list [], .list []]) n), (nm == "template") = false,
      ClOK K 50 401 [gTree, .int (.ofNat t), .int (.ofNat L), .int (-1)] (hp q (addX x d.length "element" "html" nm "") (d ++ [.list [], .list []]) n) .none (hp q (newX x d.length "element" "html" nm "" t) (dPut d i ys L) (n ++ [.list xs])), x.items.length < 1000000]) (hs' := []) (loc' := []) (by kernel_rfl)
    ⟨ClOK.up (k := 50) (place_ok OK h) (by decide), ClOK.up (k := 50) (add_ok5 OK hp'.ln) (by decide), hn, ins_ok OK hp', hl, trivial⟩
theorem elem_html3 (h : IsCur x t) (hp' : Par x d L t i ys v xs) (hl : x.items.length < 1000000) (hn : (nm == "template") = false) :
    ClOK K 90 610 [gB, .str nm, .tup []] (hp q x d n) (.int (.ofNat L)) (hp q (elX x d.length "html" nm t L) (dPut d i ys L) (n ++ [.list xs])) :=
  run_call OK (b := 50) (j := 40) (hs := [.c 578 (.tup [.int (.ofNat t), .int (-1)]) (hp q x d n), .c 363 (.int (.ofNat L)) (hp q (addX x d.length "element" "html" nm "") (d ++ [.list [], .list []]) n), .a, .f, .a, .c 401 .none (hp q (newX x d.length "element" "html" nm "" t) (dPut d i ys L) (n ++ [.list xs]))])
    (c := [ClOK K 50 578 [gB] (hp q x d n) (.tup [.int (.ofNat t), .int (-1)]) (hp q x d n),
      ClOK K 50 363 [gTree, .str "element", .str "html", .str nm, .tup []] (hp q x d n) (.int (.ofNat L)) (hp q (addX x d.length "element" "html" nm "") (d ++ [.list [], .list []]) n), (nm == "template") = false,
      ClOK K 50 401 [gTree, .int (.ofNat t), .int (.ofNat L), .int (-1)] (hp q (addX x d.length "element" "html" nm "") (d ++ [.list [], .list []]) n) .none (hp q (newX x d.length "element" "html" nm "" t) (dPut d i ys L) (n ++ [.list xs])), x.items.length < 1000000]) (hs' := []) (loc' := []) (by kernel_rfl)
    ⟨ClOK.up (k := 50) (place_ok OK h) (by decide), ClOK.up (k := 50) (add_ok5 OK hp'.ln) (by decide), hn, ins_ok OK hp', hl, trivial⟩
theorem pop_ok (h : x.items = ys ++ [g]) : ClOK K 10 263 [.obj (.c 15)] (hp q x d n) g (hp q {x with items := ys} d n) :=
  run_call OK (b := 0) (j := 10) (hs := [.f, .l ys g]) (c := [(Int.ofNat x.items.length == 0) = false, x.items = ys ++ [g]]) (hs' := []) (loc' := []) (by kernel_rfl)
    ⟨beq_eq_false_iff_ne.mpr fun e => by have e : (x.items.length : Int) = 0 := e; rw [h] at e; simp at e; omega, h, trivial⟩
theorem adj_ok (h : IsCur x t) : ClOK K 20 521 [gB] (hp q x d n) (.int (.ofNat t)) (hp q x d n) := by
  by_cases h1 : x.items.length = 1
  · have e1 : (Int.ofNat x.items.length == 1) = true := by rw [h1]; rfl
    exact run_call OK (b := 0) (j := 20) (hs := [.t, .a, .a] ++ curH x t) (c := [(Int.ofNat x.items.length == 1) = true] ++ curC x t) (hs' := []) (loc' := []) (by kernel_rfl) (Ands.app (a := [_]) ⟨e1, trivial⟩ (curC.ok h))
  · have e1 : (Int.ofNat x.items.length == 1) = false := by
      rw [beq_eq_false_iff_ne]; intro e; exact h1 (Int.ofNat.inj e)
    exact run_call OK (b := 0) (j := 20) (hs := [.f, .a] ++ curH x t) (c := [(Int.ofNat x.items.length == 1) = false] ++ curC x t) (hs' := []) (loc' := []) (by kernel_rfl) (Ands.app (a := [_]) ⟨e1, trivial⟩ (curC.ok h))
end
/-- the tokens -/
inductive Tk where
  | char (s : Str)
  | start (nm : Str)
  | fin (nm : Str)
  | com (s : Str)
  | eof
noncomputable def Tk.gv : Tk → GV
  | .char s => tChar s
  | .start nm => tTag "start" nm
  | .fin nm => tTag "end" nm
  | .com s => .tup [.str "comment", .str s]
  | .eof => .tup [.str "eof"]
section
variable {K : Frag} (OK : PrOK K PP) {q : Pre} {x : X} {d n : List AO} {L t p nd i m : Nat} {a b c e sp nm kd s sg : Str} {v : Int} {xs ys zs : List GV} {g : GV}
include OK
theorem turn_html (h : IsCur x t) (hs : x.spaces[t]? = some (.str "html")) (tk : GV) : ClOK K 40 542 [gB, tk] (hp q x d n) (.bool true) (hp q x d n) :=
  run_call OK (b := 20) (j := 20) (hs := [.c 528 (.bool false) (hp q x d n)]) (c := [ClOK K 20 528 [gB] (hp q x d n) (.bool false) (hp q x d n)]) (hs' := []) (loc' := []) (by kernel_rfl) ⟨for_ok OK h hs (.inr rfl), trivial⟩
theorem turn_svg (h : IsCur x t) (hs : x.spaces[t]? = some (.str "svg")) (hn : x.names[t]? = some (.str nm)) (hnm : nm = "s" ∨ nm = "t") (tk : Tk) : ∃ b, ClOK K 40 542 [gB, tk.gv] (hp q x d n) (.bool b) (hp q x d n) := by
  have A0 : ClOK K 20 528 [gB] (hp q x d n) (.bool true) (hp q x d n) := for_ok OK h hs (.inl rfl)
  have A1 := adj_ok OK (q := q) (d := d) (n := n) h
  cases tk with
  | eof => exact ⟨true, run_call OK (b := 20) (j := 20) (hs := [.c 528 (.bool true) (hp q x d n)]) (c := [ClOK K 20 528 [gB] (hp q x d n) (.bool true) (hp q x d n)]) (hs' := []) (loc' := []) (by kernel_rfl) ⟨A0, trivial⟩⟩
  | com s => exact ⟨false, run_call OK (b := 20) (j := 20) (hs := [.c 528 (.bool true) (hp q x d n), .c 521 (.int (.ofNat t)) (hp q x d n)]) (c := [ClOK K 20 528 [gB] (hp q x d n) (.bool true) (hp q x d n), ClOK K 20 521 [gB] (hp q x d n) (.int (.ofNat t)) (hp q x d n)]) (hs' := []) (loc' := []) (by kernel_rfl) ⟨A0, A1, trivial⟩⟩
  | fin s => exact ⟨false, run_call OK (b := 20) (j := 20) (hs := [.c 528 (.bool true) (hp q x d n), .c 521 (.int (.ofNat t)) (hp q x d n)]) (c := [ClOK K 20 528 [gB] (hp q x d n) (.bool true) (hp q x d n), ClOK K 20 521 [gB] (hp q x d n) (.int (.ofNat t)) (hp q x d n)]) (hs' := []) (loc' := []) (by kernel_rfl) ⟨A0, A1, trivial⟩⟩
  | char s =>
    rcases hnm with rfl | rfl
    · exact ⟨false, run_call OK (b := 20) (j := 20) (hs := [.c 528 (.bool true) (hp q x d n), .c 521 (.int (.ofNat t)) (hp q x d n), .v (.str "svg"), .v (.str "svg"), .v (.str "s")]) (c := [ClOK K 20 528 [gB] (hp q x d n) (.bool true) (hp q x d n), ClOK K 20 521 [gB] (hp q x d n) (.int (.ofNat t)) (hp q x d n), x.spaces[t]? = some (.str "svg"), x.spaces[t]? = some (.str "svg"), x.names[t]? = some (.str "s")]) (hs' := []) (loc' := []) (by kernel_rfl) ⟨A0, A1, hs, hs, hn, trivial⟩⟩
    · exact ⟨false, run_call OK (b := 20) (j := 20) (hs := [.c 528 (.bool true) (hp q x d n), .c 521 (.int (.ofNat t)) (hp q x d n), .v (.str "svg"), .v (.str "svg"), .v (.str "t")]) (c := [ClOK K 20 528 [gB] (hp q x d n) (.bool true) (hp q x d n), ClOK K 20 521 [gB] (hp q x d n) (.int (.ofNat t)) (hp q x d n), x.spaces[t]? = some (.str "svg"), x.spaces[t]? = some (.str "svg"), x.names[t]? = some (.str "t")]) (hs' := []) (loc' := []) (by kernel_rfl) ⟨A0, A1, hs, hs, hn, trivial⟩⟩
  | start s =>
    rcases hnm with rfl | rfl
    · exact ⟨false, run_call OK (b := 20) (j := 20) (hs := [.c 528 (.bool true) (hp q x d n), .c 521 (.int (.ofNat t)) (hp q x d n), .v (.str "svg"), .v (.str "svg"), .v (.str "svg"), .v (.str "s")]) (c := [ClOK K 20 528 [gB] (hp q x d n) (.bool true) (hp q x d n), ClOK K 20 521 [gB] (hp q x d n) (.int (.ofNat t)) (hp q x d n), x.spaces[t]? = some (.str "svg"), x.spaces[t]? = some (.str "svg"), x.spaces[t]? = some (.str "svg"), x.names[t]? = some (.str "s")]) (hs' := []) (loc' := []) (by kernel_rfl) ⟨A0, A1, hs, hs, hs, hn, trivial⟩⟩
    · exact ⟨false, run_call OK (b := 20) (j := 20) (hs := [.c 528 (.bool true) (hp q x d n), .c 521 (.int (.ofNat t)) (hp q x d n), .v (.str "svg"), .v (.str "svg"), .v (.str "svg"), .v (.str "t")]) (c := [ClOK K 20 528 [gB] (hp q x d n) (.bool true) (hp q x d n), ClOK K 20 521 [gB] (hp q x d n) (.int (.ofNat t)) (hp q x d n), x.spaces[t]? = some (.str "svg"), x.spaces[t]? = some (.str "svg"), x.spaces[t]? = some (.str "svg"), x.names[t]? = some (.str "t")]) (hs' := []) (loc' := []) (by kernel_rfl) ⟨A0, A1, hs, hs, hs, hn, trivial⟩⟩
end
end Mine
end

section
set_option maxRecDepth 100000
set_option autoImplicit false
set_option tactic.hygienic false
namespace Mine
open PySem PySem.W PySem.Calls PyProof.Rows

theorem cur_snoc {x : X} {ys : List GV} {t : Nat} : IsCur {x with items := ys ++ [.int (.ofNat t)]} t := by
  show (ys ++ [GV.int (.ofNat t)])[(ys ++ [GV.int (.ofNat t)]).length - 1]? = _
  simp
/-- the foreign ones go -/
inductive Pops (sp : List GV) : List GV → List GV → Prop
  | stop {ys : List GV} {t : Nat} : sp[t]? = some (.str "html") → Pops sp (ys ++ [.int (.ofNat t)]) (ys ++ [.int (.ofNat t)])
  | pop {ys zs : List GV} {t : Nat} : sp[t]? = some (.str "svg") → Pops sp ys zs → Pops sp (ys ++ [.int (.ofNat t)]) zs
noncomputable def lbF : FI := fiOf (topAt 84) []
noncomputable def ifOrelse : Stmt → List Stmt
  | .If _ _ o _ => o
  | _ => []
/-- the while of the law's body -/
noncomputable def lbW : Stmt := stAt (ifOrelse (stAt (ifOrelse (stAt (ifOrelse (stAt (ifOrelse (stAt (ifOrelse (stAt (ifOrelse (stAt lbF.body 0)) 0)) 0)) 0)) 0)) 0)) 0
noncomputable def fiF : FI := fiOf (topAt 31) []
noncomputable def fiW : Stmt := stAt fiF.body 0
section
variable {K : Frag} (OK : PrOK K PP) {q : Pre} {x : X} {d n : List AO} {L t p nd i m : Nat} {a b c e sp nm kd s sg : Str} {v : Int} {xs ys zs : List GV} {g : GV} {ah ah' : AH}
include OK
theorem lb_char (h : ClOK K 90 585 [gB, .str s] ah .none ah') : ClOK K 110 1095 [gB, tChar s] ah .none ah' :=
  run_call OK (b := 90) (j := 20) (hs := [.c 585 .none ah']) (c := [ClOK K 90 585 [gB, .str s] ah .none ah']) (hs' := []) (loc' := []) (by kernel_rfl) ⟨h, trivial⟩
theorem lb_com (h : ClOK K 90 593 [gB, .str s] ah .none ah') : ClOK K 110 1095 [gB, (Tk.com s).gv] ah .none ah' :=
  run_call OK (b := 90) (j := 20) (hs := [.c 593 .none ah']) (c := [ClOK K 90 593 [gB, .str s] ah .none ah']) (hs' := []) (loc' := []) (by kernel_rfl) ⟨h, trivial⟩
theorem lb_eof (h : ClOK K 90 549 [gB] ah .none ah') : ClOK K 110 1095 [gB, Tk.eof.gv] ah .none ah' :=
  run_call OK (b := 90) (j := 20) (hs := [.c 549 .none ah']) (c := [ClOK K 90 549 [gB] ah .none ah']) (hs' := []) (loc' := []) (by kernel_rfl) ⟨h, trivial⟩
theorem lb_end1 (h : x.items.length ≤ 1) : ClOK K 110 1095 [gB, tTag "end" nm] (hp q x d n) .none (hp q x d n) :=
  run_call OK (b := 90) (j := 20) (hs := [.a, .a, .a, .a, .f, .a]) (c := [decide ((1 : Int) < Int.ofNat x.items.length) = false]) (hs' := []) (loc' := []) (by kernel_rfl) ⟨decide_eq_false (by show ¬ (1 : Int) < (x.items.length : Int); omega), trivial⟩
theorem lb_end2 (h : IsCur x t) (hl : 1 < x.items.length) (hn : x.names[t]? = some (.str a)) (hne : (a == nm) = false) : ClOK K 110 1095 [gB, tTag "end" nm] (hp q x d n) .none (hp q x d n) :=
  run_call OK (b := 90) (j := 20) (hs := [.a, .a, .a, .a, .t, .c 270 (.int (.ofNat t)) (hp q x d n), .v (.str a), .f, .a]) (c := [decide ((1 : Int) < Int.ofNat x.items.length) = true, ClOK K 90 270 [.obj (.c 15)] (hp q x d n) (.int (.ofNat t)) (hp q x d n), x.names[t]? = some (.str a), (a == nm) = false]) (hs' := []) (loc' := []) (by kernel_rfl)
    ⟨decide_eq_true (by show (1 : Int) < (x.items.length : Int); omega), ClOK.up (k := 90) (cur_ok OK h) (by decide), hn, hne, trivial⟩
theorem lb_end3 (h : x.items = ys ++ [.int (.ofNat t)]) (hl : 1 < x.items.length) (hn : x.names[t]? = some (.str nm)) : ClOK K 110 1095 [gB, tTag "end" nm] (hp q x d n) .none (hp q {x with items := ys} d n) := by
  have hc : IsCur x t := by unfold IsCur; rw [h]; simp
  exact run_call OK (b := 90) (j := 20) (hs := [.a, .a, .a, .a, .t, .c 270 (.int (.ofNat t)) (hp q x d n), .v (.str nm), .t, .a, .c 263 (.int (.ofNat t)) (hp q {x with items := ys} d n)])
    (c := [decide ((1 : Int) < Int.ofNat x.items.length) = true, ClOK K 90 270 [.obj (.c 15)] (hp q x d n) (.int (.ofNat t)) (hp q x d n), x.names[t]? = some (.str nm), (nm == nm) = true, ClOK K 90 263 [.obj (.c 15)] (hp q x d n) (.int (.ofNat t)) (hp q {x with items := ys} d n)]) (hs' := []) (loc' := []) (by kernel_rfl)
    ⟨decide_eq_true (by show (1 : Int) < (x.items.length : Int); omega), ClOK.up (k := 90) (cur_ok OK hc) (by decide), hn, beq_self_eq_true _, ClOK.up (k := 90) (pop_ok OK h) (by decide), trivial⟩
theorem lb_start_for (h : IsCur x t) (hs : x.spaces[t]? = some (.str "svg")) (hnm : nm = "s" ∨ nm = "t") (hp' : Par x d L t i ys v xs) (hl : x.items.length < 1000000) :
    ClOK K 110 1095 [gB, tTag "start" nm] (hp q x d n) .none (hp q (elX x d.length "svg" nm t L) (dPut d i ys L) (n ++ [.list xs])) := by
  have A := for_ok OK (q := q) (d := d) (n := n) h hs (.inl rfl)
  have B := elem_svg OK (q := q) (n := n) (nm := nm) h hp' hl
  rcases hnm with rfl | rfl
  · exact run_call OK (b := 90) (j := 20) (hs := [.c 528 (.bool true) (hp q x d n), .c 610 (.int (.ofNat L)) (hp q (elX x d.length "svg" "s" t L) (dPut d i ys L) (n ++ [.list xs]))])
      (c := [ClOK K 90 528 [gB] (hp q x d n) (.bool true) (hp q x d n), ClOK K 90 610 [gB, .str "s", .tup [], .str "svg"] (hp q x d n) (.int (.ofNat L)) (hp q (elX x d.length "svg" "s" t L) (dPut d i ys L) (n ++ [.list xs]))]) (hs' := []) (loc' := []) (by kernel_rfl)
      ⟨ClOK.up (k := 90) A (by decide), B, trivial⟩
  · exact run_call OK (b := 90) (j := 20) (hs := [.c 528 (.bool true) (hp q x d n), .c 610 (.int (.ofNat L)) (hp q (elX x d.length "svg" "t" t L) (dPut d i ys L) (n ++ [.list xs]))])
      (c := [ClOK K 90 528 [gB] (hp q x d n) (.bool true) (hp q x d n), ClOK K 90 610 [gB, .str "t", .tup [], .str "svg"] (hp q x d n) (.int (.ofNat L)) (hp q (elX x d.length "svg" "t" t L) (dPut d i ys L) (n ++ [.list xs]))]) (hs' := []) (loc' := []) (by kernel_rfl)
      ⟨ClOK.up (k := 90) A (by decide), B, trivial⟩
theorem raw_ok (h : IsCur x t) (hp' : Par x d L t i ys v xs) (hl : x.items.length < 1000000) :
    ClOK K 120 631 [gB, tTag "start" "t", .str "RCDATA"] (hp q x d n) .none (hp q {elX x d.length "html" "t" t L with wish := "RCDATA", orig := x.mode, mode := "text"} (dPut d i ys L) (n ++ [.list xs])) :=
  run_call OK (b := 90) (j := 30) (hs := [.c 610 (.int (.ofNat L)) (hp q (elX x d.length "html" "t" t L) (dPut d i ys L) (n ++ [.list xs]))])
    (c := [ClOK K 90 610 [gB, .str "t", .tup []] (hp q x d n) (.int (.ofNat L)) (hp q (elX x d.length "html" "t" t L) (dPut d i ys L) (n ++ [.list xs]))]) (hs' := []) (loc' := []) (by kernel_rfl)
    ⟨elem_html3 OK h hp' hl (by decide), trivial⟩
theorem lb_start_raw (h : IsCur x t) (hs : x.spaces[t]? = some (.str "html")) (hp' : Par x d L t i ys v xs) (hl : x.items.length < 1000000) :
    ClOK K 130 1095 [gB, tTag "start" "t"] (hp q x d n) .none (hp q {elX x d.length "html" "t" t L with wish := "RCDATA", orig := x.mode, mode := "text"} (dPut d i ys L) (n ++ [.list xs])) :=
  run_call OK (b := 120) (j := 10) (hs := [.c 528 (.bool false) (hp q x d n), .c 631 .none (hp q {elX x d.length "html" "t" t L with wish := "RCDATA", orig := x.mode, mode := "text"} (dPut d i ys L) (n ++ [.list xs]))])
    (c := [ClOK K 120 528 [gB] (hp q x d n) (.bool false) (hp q x d n), ClOK K 120 631 [gB, tTag "start" "t", .str "RCDATA"] (hp q x d n) .none (hp q {elX x d.length "html" "t" t L with wish := "RCDATA", orig := x.mode, mode := "text"} (dPut d i ys L) (n ++ [.list xs]))]) (hs' := []) (loc' := []) (by kernel_rfl)
    ⟨ClOK.up (k := 120) (for_ok OK h hs (.inr rfl)) (by decide), raw_ok OK h hp' hl, trivial⟩
theorem pops_turns {tk : GV} (h : Pops x.spaces ys zs) : WhOK K 40 lbF.scope (whT lbW) (whB lbW) [("builder", gB), ("token", tk)] (hp q {x with items := ys} d n) .nxt [("builder", gB), ("token", tk)] (hp q {x with items := zs} d n) := by
  induction h with
  | @stop ys t hs =>
    exact .done (run_ts OK (b := 20) (j := 20) (hs := [.c 528 (.bool false) (hp q {x with items := ys ++ [.int (.ofNat t)]} d n)]) (c := [ClOK K 20 528 [gB] (hp q {x with items := ys ++ [.int (.ofNat t)]} d n) (.bool false) (hp q {x with items := ys ++ [.int (.ofNat t)]} d n)]) (hs' := []) (loc' := [("builder", gB), ("token", tk)]) (by kernel_rfl)
      ⟨for_ok OK (x := {x with items := ys ++ [.int (.ofNat t)]}) cur_snoc hs (.inr rfl), trivial⟩)
  | @pop ys zs t hs _ ih =>
    have h1 : TsOK K 40 lbF.scope (whT lbW) [("builder", gB), ("token", tk)] (hp q {x with items := ys ++ [.int (.ofNat t)]} d n) true (hp q {x with items := ys ++ [.int (.ofNat t)]} d n) :=
      run_ts OK (b := 20) (j := 20) (hs := [.c 528 (.bool true) (hp q {x with items := ys ++ [.int (.ofNat t)]} d n)]) (c := [ClOK K 20 528 [gB] (hp q {x with items := ys ++ [.int (.ofNat t)]} d n) (.bool true) (hp q {x with items := ys ++ [.int (.ofNat t)]} d n)]) (hs' := []) (loc' := [("builder", gB), ("token", tk)]) (by kernel_rfl)
        ⟨for_ok OK (x := {x with items := ys ++ [.int (.ofNat t)]}) cur_snoc hs (.inl rfl), trivial⟩
    have h2 : ExOK K 40 lbF.scope (whB lbW) [("builder", gB), ("token", tk)] (hp q {x with items := ys ++ [.int (.ofNat t)]} d n) .nxt [("builder", gB), ("token", tk)] (hp q {x with items := ys} d n) :=
      run_ex OK (b := 20) (j := 20) (hs := [.c 263 (.int (.ofNat t)) (hp q {x with items := ys} d n)]) (c := [ClOK K 20 263 [.obj (.c 15)] (hp q {x with items := ys ++ [.int (.ofNat t)]} d n) (.int (.ofNat t)) (hp q {x with items := ys} d n)]) (hs' := []) (by kernel_rfl)
        ⟨ClOK.up (k := 20) (pop_ok OK (x := {x with items := ys ++ [.int (.ofNat t)]}) rfl) (by decide), trivial⟩
    exact .nxt h1 h2 ih
theorem finish_turns : ∀ (k : Nat) (its : List GV), its.length = k → WhOK K 20 fiF.scope (whT fiW) (whB fiW) [("builder", gB)] (hp q {x with items := its} d n) .nxt [("builder", gB)] (hp q {x with items := []} d n)
  | 0, its, h => by
    obtain rfl := List.eq_nil_of_length_eq_zero h
    exact .done (run_ts OK (b := 0) (j := 20) (hs := []) (c := []) (hs' := []) (loc' := [("builder", gB)]) (by kernel_rfl) trivial)
  | k + 1, its, h => by
    obtain ⟨ys, g, rfl⟩ : ∃ ys g, its = ys ++ [g] := ⟨its.dropLast, its.getLast (by intro e; rw [e] at h; cases h), (List.dropLast_concat_getLast _).symm⟩
    have h1 : TsOK K 20 fiF.scope (whT fiW) [("builder", gB)] (hp q {x with items := ys ++ [g]} d n) true (hp q {x with items := ys ++ [g]} d n) :=
      run_ts OK (b := 0) (j := 20) (hs := []) (c := []) (hs' := []) (loc' := [("builder", gB)]) (r := decide ((0 : Int) < Int.ofNat (ys ++ [g]).length)) (by kernel_rfl) trivial |> fun z => by
        have e : decide ((0 : Int) < Int.ofNat (ys ++ [g]).length) = true := decide_eq_true (by show (0 : Int) < ((ys ++ [g]).length : Int); simp)
        rw [e] at z
        exact z
    have h2 : ExOK K 20 fiF.scope (whB fiW) [("builder", gB)] (hp q {x with items := ys ++ [g]} d n) .nxt [("builder", gB)] (hp q {x with items := ys} d n) :=
      run_ex OK (b := 10) (j := 10) (hs := [.c 263 g (hp q {x with items := ys} d n)]) (c := [ClOK K 10 263 [.obj (.c 15)] (hp q {x with items := ys ++ [g]} d n) g (hp q {x with items := ys} d n)]) (hs' := []) (by kernel_rfl)
        ⟨pop_ok OK (x := {x with items := ys ++ [g]}) rfl, trivial⟩
    exact .nxt h1 h2 (finish_turns k ys (by simpa using h))
end
end Mine
end

section
set_option maxRecDepth 100000
set_option autoImplicit false
set_option tactic.hygienic false
namespace Mine
open PySem PySem.W PySem.Calls PyProof.Rows
theorem cur_of {x : X} {ys : List GV} {t : Nat} (h : x.items = ys ++ [.int (.ofNat t)]) : IsCur x t := by unfold IsCur; rw [h]; simp
section
variable {K : Frag} (OK : PrOK K PP) {q : Pre} {x : X} {d n : List AO} {L t p nd i m : Nat} {a b c e sp nm kd s sg : Str} {v : Int} {xs ys zs : List GV} {g : GV} {ah ah' : AH}
include OK
theorem finish_ok : ClOK K 40 549 [gB] (hp q x d n) .none (hp q {x with items := [], bdone := true} d n) := by
  have W : StOK K 20 fiF.scope (.While (whT fiW) (whB fiW) [] (stPos fiW)) [("builder", gB)] (hp q x d n) .nxt [("builder", gB)] (hp q {x with items := []} d n) :=
    WhOK.stmt (finish_turns OK (q := q) (x := x) (d := d) (n := n) _ x.items rfl)
  exact run_call OK (b := 20) (j := 20) (hs := [.w .nxt [("builder", gB)] (hp q {x with items := []} d n)]) (c := [StOK K 20 fiF.scope (.While (whT fiW) (whB fiW) [] (stPos fiW)) [("builder", gB)] (hp q x d n) .nxt [("builder", gB)] (hp q {x with items := []} d n)]) (hs' := []) (loc' := []) (by kernel_rfl) ⟨W, trivial⟩
/-- a start tag, the current node no foreign one: after the pops -/
theorem lb_start_s (h : x.items = ys ++ [.int (.ofNat t)]) (hs : x.spaces[t]? = some (.str "html")) (hp' : Par x d L t i zs v xs) (hl : x.items.length < 1000000) :
    ClOK K 110 1095 [gB, tTag "start" "s"] (hp q x d n) .none (hp q (elX x d.length "svg" "s" t L) (dPut d i zs L) (n ++ [.list xs])) := by
  have hc : IsCur x t := by unfold IsCur; rw [h]; simp
  have W : StOK K 40 lbF.scope (.While (whT lbW) (whB lbW) [] (stPos lbW)) [("builder", gB), ("token", tTag "start" "s")] (hp q x d n) .nxt [("builder", gB), ("token", tTag "start" "s")] (hp q x d n) :=
    WhOK.stmt (by have r := pops_turns OK (q := q) (x := x) (d := d) (n := n) (tk := tTag "start" "s") (ys := x.items) (zs := x.items) (by rw [h]; exact .stop hs); exact r)
  exact run_call OK (b := 90) (j := 20) (hs := [.c 528 (.bool false) (hp q x d n), .w .nxt [("builder", gB), ("token", tTag "start" "s")] (hp q x d n), .c 610 (.int (.ofNat L)) (hp q (elX x d.length "svg" "s" t L) (dPut d i zs L) (n ++ [.list xs]))])
    (c := [ClOK K 90 528 [gB] (hp q x d n) (.bool false) (hp q x d n), StOK K 90 lbF.scope (.While (whT lbW) (whB lbW) [] (stPos lbW)) [("builder", gB), ("token", tTag "start" "s")] (hp q x d n) .nxt [("builder", gB), ("token", tTag "start" "s")] (hp q x d n),
      ClOK K 90 610 [gB, .str "s", .tup [], .str "svg"] (hp q x d n) (.int (.ofNat L)) (hp q (elX x d.length "svg" "s" t L) (dPut d i zs L) (n ++ [.list xs]))]) (hs' := []) (loc' := []) (by kernel_rfl)
    ⟨ClOK.up (k := 90) (for_ok OK hc hs (.inr rfl)) (by decide), StOK.up (k := 90) W (by decide), elem_svg OK hc hp' hl, trivial⟩
theorem lb_start_b {u : Nat} (hu : IsCur x u) (hus : x.spaces[u]? = some (.str sp)) (hsp : sp = "svg" ∨ sp = "html") (hpo : Pops x.spaces x.items (ys ++ [.int (.ofNat t)])) (hp' : Par x d L t i zs v xs) (hl : (ys ++ [GV.int (.ofNat t)]).length < 1000000) :
    ClOK K 110 1095 [gB, tTag "start" "b"] (hp q x d n) .none (hp q (elX {x with items := ys ++ [.int (.ofNat t)]} d.length "html" "b" t L) (dPut d i zs L) (n ++ [.list xs])) := by
  have hc : IsCur {x with items := ys ++ [.int (.ofNat t)]} t := cur_snoc
  have W : StOK K 40 lbF.scope (.While (whT lbW) (whB lbW) [] (stPos lbW)) [("builder", gB), ("token", tTag "start" "b")] (hp q x d n) .nxt [("builder", gB), ("token", tTag "start" "b")] (hp q {x with items := ys ++ [.int (.ofNat t)]} d n) :=
    WhOK.stmt (by have r := pops_turns OK (q := q) (x := x) (d := d) (n := n) (tk := tTag "start" "b") hpo; exact r)
  have A := for_ok OK (q := q) (d := d) (n := n) hu hus hsp
  have B := elem_html OK (q := q) (x := {x with items := ys ++ [.int (.ofNat t)]}) (d := d) (n := n) (nm := "b") (ys := zs) hc ⟨⟨hp'.ln.k, hp'.ln.s, hp'.ln.n, hp'.ln.a, hp'.ln.t, hp'.ln.p, hp'.ln.c, hp'.ln.z⟩, hp'.pv, hp'.pa, hp'.mm, hp'.xl, hp'.kd, hp'.dd, hp'.yl⟩ hl (by decide)
  rcases hsp with rfl | rfl
  · exact run_call OK (b := 90) (j := 20) (hs := [.c 528 (.bool true) (hp q x d n), .w .nxt [("builder", gB), ("token", tTag "start" "b")] (hp q {x with items := ys ++ [.int (.ofNat t)]} d n), .c 610 (.int (.ofNat L)) (hp q (elX {x with items := ys ++ [.int (.ofNat t)]} d.length "html" "b" t L) (dPut d i zs L) (n ++ [.list xs]))])
      (c := [ClOK K 90 528 [gB] (hp q x d n) (.bool true) (hp q x d n), StOK K 90 lbF.scope (.While (whT lbW) (whB lbW) [] (stPos lbW)) [("builder", gB), ("token", tTag "start" "b")] (hp q x d n) .nxt [("builder", gB), ("token", tTag "start" "b")] (hp q {x with items := ys ++ [.int (.ofNat t)]} d n),
        ClOK K 90 610 [gB, .str "b", .tup [], .str "html"] (hp q {x with items := ys ++ [.int (.ofNat t)]} d n) (.int (.ofNat L)) (hp q (elX {x with items := ys ++ [.int (.ofNat t)]} d.length "html" "b" t L) (dPut d i zs L) (n ++ [.list xs]))]) (hs' := []) (loc' := []) (by kernel_rfl)
      ⟨ClOK.up (k := 90) A (by decide), StOK.up (k := 90) W (by decide), B, trivial⟩
  · exact run_call OK (b := 90) (j := 20) (hs := [.c 528 (.bool false) (hp q x d n), .w .nxt [("builder", gB), ("token", tTag "start" "b")] (hp q {x with items := ys ++ [.int (.ofNat t)]} d n), .c 610 (.int (.ofNat L)) (hp q (elX {x with items := ys ++ [.int (.ofNat t)]} d.length "html" "b" t L) (dPut d i zs L) (n ++ [.list xs]))])
      (c := [ClOK K 90 528 [gB] (hp q x d n) (.bool false) (hp q x d n), StOK K 90 lbF.scope (.While (whT lbW) (whB lbW) [] (stPos lbW)) [("builder", gB), ("token", tTag "start" "b")] (hp q x d n) .nxt [("builder", gB), ("token", tTag "start" "b")] (hp q {x with items := ys ++ [.int (.ofNat t)]} d n),
        ClOK K 90 610 [gB, .str "b", .tup [], .str "html"] (hp q {x with items := ys ++ [.int (.ofNat t)]} d n) (.int (.ofNat L)) (hp q (elX {x with items := ys ++ [.int (.ofNat t)]} d.length "html" "b" t L) (dPut d i zs L) (n ++ [.list xs]))]) (hs' := []) (loc' := []) (by kernel_rfl)
      ⟨ClOK.up (k := 90) A (by decide), StOK.up (k := 90) W (by decide), B, trivial⟩
/-! ## a token processed -/
noncomputable abbrev bX (x : X) : X := {x with mode := "in body", bdone := false}
theorem process_body (tk : Tk) {r : Bool} (ht : ClOK K 40 542 [gB, tk.gv] (hp q (bX x) d n) (.bool r) (hp q (bX x) d n)) (h : ClOK K 140 1095 [gB, tk.gv] (hp q (bX x) d n) .none ah') : ClOK K 150 507 [gB, tk.gv] (hp q (bX x) d n) .none ah' := by
  have ht' := ClOK.up (k := 140) ht (by decide)
  cases r
  · cases tk <;> exact run_call OK (b := 140) (j := 10) (hs := [.c 542 (.bool false) (hp q (bX x) d n), .c 1095 .none ah']) (c := [_, _]) (hs' := []) (loc' := []) (by kernel_rfl) ⟨ht', h, trivial⟩
  · cases tk <;> exact run_call OK (b := 140) (j := 10) (hs := [.c 542 (.bool true) (hp q (bX x) d n), .c 1095 .none ah']) (c := [_, _]) (hs' := []) (loc' := []) (by kernel_rfl) ⟨ht', h, trivial⟩
theorem feed_body (tk : Tk) {r : Bool} (ht : ClOK K 40 542 [gB, tk.gv] (hp q (bX x) d n) (.bool r) (hp q (bX x) d n)) (h : ClOK K 140 1095 [gB, tk.gv] (hp q (bX x) d n) .none ah') : ClOK K 170 514 [gB, tk.gv] (hp q (bX x) d n) .none ah' := by
  have P := ClOK.up (k := 150) (process_body OK tk ht h) (by decide)
  cases tk <;> exact run_call OK (b := 150) (j := 20) (hs := [.c 507 .none ah']) (c := [_]) (hs' := []) (loc' := []) (by kernel_rfl) ⟨P, trivial⟩
/-! the text mode -/
noncomputable abbrev tX (x : X) : X := {x with mode := "text", bdone := false, orig := "in body"}
theorem tm_char (h : ClOK K 90 585 [gB, .str s] ah .none ah') : ClOK K 110 645 [gB, tChar s] ah .none ah' :=
  run_call OK (b := 90) (j := 20) (hs := [.c 585 .none ah']) (c := [_]) (hs' := []) (loc' := []) (by kernel_rfl) ⟨h, trivial⟩
theorem tm_end (h : x.items = ys ++ [g]) : ClOK K 110 645 [gB, tTag "end" nm] (hp q (tX x) d n) .none (hp q {x with items := ys, mode := "in body", bdone := false, orig := "in body"} d n) :=
  run_call OK (b := 90) (j := 20) (hs := [.c 263 g (hp q {tX x with items := ys} d n)]) (c := [_]) (hs' := []) (loc' := []) (by kernel_rfl) ⟨ClOK.up (k := 90) (pop_ok OK (q := q) (d := d) (n := n) (x := tX x) h) (by decide), trivial⟩
theorem tm_eof (h : x.items = ys ++ [.int (.ofNat t)] ++ [g]) (hs : x.spaces[t]? = some (.str "html")) (hb : x.berr.length < 1000000) :
    ClOK K 170 645 [gB, Tk.eof.gv] (hp q (tX x) d n) .none (hp q {x with items := [], mode := "in body", bdone := true, orig := "in body", berr := x.berr ++ [.tup [.str "unexpected-eof", .str "text"]]} d n) := by
  have P := process_body OK (q := q) (x := {x with items := ys ++ [.int (.ofNat t)], orig := "in body", berr := x.berr ++ [.tup [.str "unexpected-eof", .str "text"]]}) (d := d) (n := n) .eof
    (turn_html OK (x := bX {x with items := ys ++ [.int (.ofNat t)], orig := "in body", berr := x.berr ++ [.tup [.str "unexpected-eof", .str "text"]]}) (cur_of rfl) hs _)
    (ClOK.up (lb_eof OK (ClOK.up (finish_ok OK) (by decide))) (by decide))
  exact run_call OK (b := 150) (j := 20) (hs := [.c 263 g (hp q {tX x with items := ys ++ [.int (.ofNat t)], berr := x.berr ++ [.tup [.str "unexpected-eof", .str "text"]]} d n), .c 507 .none (hp q {x with items := [], mode := "in body", bdone := true, orig := "in body", berr := x.berr ++ [.tup [.str "unexpected-eof", .str "text"]]} d n)])
    (c := [x.berr.length < 1000000, _, _]) (hs' := []) (loc' := []) (by kernel_rfl)
    ⟨hb, ClOK.up (k := 150) (pop_ok OK (q := q) (d := d) (n := n) (x := {tX x with berr := x.berr ++ [.tup [.str "unexpected-eof", .str "text"]]}) h) (by decide), P, trivial⟩
theorem process_text (tk : Tk) (ht : ClOK K 40 542 [gB, tk.gv] (hp q (tX x) d n) (.bool true) (hp q (tX x) d n)) (h : ClOK K 170 645 [gB, tk.gv] (hp q (tX x) d n) .none ah') : ClOK K 180 507 [gB, tk.gv] (hp q (tX x) d n) .none ah' := by
  have ht' := ClOK.up (k := 170) ht (by decide)
  cases tk <;> exact run_call OK (b := 170) (j := 10) (hs := [.c 542 (.bool true) (hp q (tX x) d n), .c 645 .none ah']) (c := [_, _]) (hs' := []) (loc' := []) (by kernel_rfl) ⟨ht', h, trivial⟩
theorem feed_text (tk : Tk) (ht : ClOK K 40 542 [gB, tk.gv] (hp q (tX x) d n) (.bool true) (hp q (tX x) d n)) (h : ClOK K 170 645 [gB, tk.gv] (hp q (tX x) d n) .none ah') : ClOK K 200 514 [gB, tk.gv] (hp q (tX x) d n) .none ah' := by
  have P := process_text OK tk ht h
  cases tk <;> exact run_call OK (b := 180) (j := 20) (hs := [.c 507 .none ah']) (c := [_]) (hs' := []) (loc' := []) (by kernel_rfl) ⟨P, trivial⟩
end
end Mine
end

section
set_option maxRecDepth 100000
set_option autoImplicit false
set_option tactic.hygienic false
namespace Mine
open PySem PySem.W PySem.Calls PyProof.Rows

/-! ## the tree, plain -/
structure Nd where
  kind : Str
  space : Str
  name : Str
  text : Str
  par : Nat
  kids : List Nat
structure Z where
  U : List Nd
  S : List Nat
  raw : Bool
  fin : Bool
  err : Bool
noncomputable def dNd : Nd := ⟨"", "", "", "", 0, []⟩
noncomputable def addNd (U : List Nd) (p : Nat) (nd : Nd) : List Nd := U.modify p (fun q => {q with kids := q.kids ++ [U.length]}) ++ [nd]
noncomputable def at_ (U : List Nd) (p : Nat) : Nd := U[p]?.getD dNd
noncomputable def txNd (p : Nat) (s : Str) : Nd := ⟨"text", "", "", s, p + 1, []⟩
noncomputable def put (U : List Nd) (p : Nat) (s : Str) : List Nd := match (at_ U p).kids.getLast? with
  | some m => bif (at_ U m).kind == "text" then U.modify m (fun q => {q with text := q.text ++ s}) else addNd U p (txNd p s)
  | none => addNd U p (txNd p s)
noncomputable def Z.top (z : Z) : Nat := z.S.headD 0
noncomputable def Z.cur (z : Z) : Nd := at_ z.U z.top
noncomputable def Z.open_ (z : Z) (sp nm : Str) : Z := {z with U := addNd z.U z.top ⟨"element", sp, nm, "", z.top + 1, []⟩, S := z.U.length :: z.S}
noncomputable def Z.isFor (z : Z) : Bool := z.cur.space == "svg"
noncomputable def Z.out (z : Z) : Z := {z with S := z.S.dropWhile fun i => (at_ z.U i).space == "svg"}
noncomputable def Z.feed (z : Z) : Tk → Z
  | .char s => {z with U := put z.U z.top s}
  | .com s => {z with U := addNd z.U z.top ⟨"comment", "", "", s, z.top + 1, []⟩}
  | .fin nm => bif z.raw then {z with S := z.S.tail, raw := false} else bif decide (1 < z.S.length) && z.cur.name == nm then {z with S := z.S.tail} else z
  | .start nm => bif z.isFor && !(nm == "b") then z.open_ "svg" nm else bif nm == "t" then {z.open_ "html" "t" with raw := true} else z.out.open_ (bif nm == "s" then "svg" else "html") nm
  | .eof => {z with S := [], fin := true, err := z.raw, raw := false}

/-! what the heap holds of it -/
noncomputable def gKinds (U : List Nd) : List GV := .str "document" :: U.map fun nd => .str nd.kind
noncomputable def gSpaces (U : List Nd) : List GV := .str "" :: U.map fun nd => .str nd.space
noncomputable def gNames (U : List Nd) : List GV := .str "" :: U.map fun nd => .str nd.name
noncomputable def gTexts (U : List Nd) : List GV := .str "" :: U.map fun nd => .str nd.text
noncomputable def gPar (U : List Nd) : List GV := .int (-1) :: U.map fun nd => .int (.ofNat nd.par)
noncomputable def gAttrs (U : List Nd) : List GV := (List.range (U.length + 1)).map fun i => .obj (.d (2 * i))
noncomputable def gKids (U : List Nd) : List GV := (List.range (U.length + 1)).map fun i => .obj (.d (2 * i + 1))
noncomputable def gKd (l : List Nat) : List GV := l.map fun j => .int (.ofNat (j + 1))
noncomputable def gD (U : List Nd) : List AO := [.list [], .list [.int 1]] ++ U.flatMap fun nd => [.list [], .list (gKd nd.kids)]
noncomputable def gItems (S : List Nat) : List GV := S.reverse.map fun i => .int (.ofNat (i + 1))
noncomputable def gBerr (e : Bool) : List GV := bif e then [.tup [.str "unexpected-eof", .str "text"]] else []
noncomputable def xB (z : Z) (o : Str) (x : X) : X := {x with mode := (bif z.raw then "text" else "in body"), orig := (bif z.raw then "in body" else o), wish := "", bdone := z.fin, berr := gBerr z.err, kinds := gKinds z.U, spaces := gSpaces z.U, names := gNames z.U, attrs := gAttrs z.U, texts := gTexts z.U, parents := gPar z.U, kids := gKids z.U, items := gItems z.S}

/-! lists -/
theorem map_modify_same {α β : Type} (g : α → β) (f : α → α) (h : ∀ a, g (f a) = g a) : ∀ (l : List α) (p : Nat), (l.modify p f).map g = l.map g
  | [], p => by cases p <;> rfl
  | a :: l, 0 => by simp [h]
  | a :: l, p + 1 => by simp [map_modify_same g f h l p]
theorem map_modify_set {α β : Type} (g : α → β) (f : α → α) : ∀ (l : List α) (p : Nat) (a : α), l[p]? = some a → (l.modify p f).map g = (l.map g).set p (g (f a))
  | [], p, a, h => by simp at h
  | b :: l, 0, a, h => by simp at h; subst h; simp
  | b :: l, p + 1, a, h => by simp [map_modify_set g f l p a (by simpa using h)]
theorem flat_get : ∀ (U : List Nd) (p : Nat) (nd : Nd), U[p]? = some nd → (U.flatMap fun nd => [AO.list [], AO.list (gKd nd.kids)])[2 * p + 1]? = some (.list (gKd nd.kids))
  | [], p, nd, h => by simp at h
  | a :: U, 0, nd, h => by simp at h; subst h; rfl
  | a :: U, p + 1, nd, h => by
    show ([AO.list [], AO.list (gKd a.kids)] ++ U.flatMap _)[2 * p + 1 + 2]? = _
    rw [List.getElem?_append_right (by simp)]
    simpa using flat_get U p nd (by simpa using h)
theorem flat_get0 : ∀ (U : List Nd) (p : Nat) (nd : Nd), U[p]? = some nd → (U.flatMap fun nd => [AO.list [], AO.list (gKd nd.kids)])[2 * p]? = some (.list [])
  | [], p, nd, h => by simp at h
  | a :: U, 0, nd, h => rfl
  | a :: U, p + 1, nd, h => by
    show ([AO.list [], AO.list (gKd a.kids)] ++ U.flatMap _)[2 * p + 2]? = _
    rw [List.getElem?_append_right (by simp)]
    simpa using flat_get0 U p nd (by simpa using h)
theorem flat_set (k : List Nat) : ∀ (U : List Nd) (p : Nat) (nd : Nd), U[p]? = some nd → (U.flatMap fun nd => [AO.list [], AO.list (gKd nd.kids)]).set (2 * p + 1) (.list (gKd (nd.kids ++ k))) =
    (U.modify p fun q => {q with kids := q.kids ++ k}).flatMap fun nd => [AO.list [], AO.list (gKd nd.kids)]
  | [], p, nd, h => by simp at h
  | a :: U, 0, nd, h => by simp at h; subst h; simp
  | a :: U, p + 1, nd, h => by
    show ([AO.list [], AO.list (gKd a.kids)] ++ U.flatMap _).set (2 * p + 1 + 2) _ = _
    rw [List.set_append_right _ _ (by simp)]
    have := flat_set k U p nd (by simpa using h)
    simp only [List.length_cons, List.length_nil, Nat.add_sub_cancel, Nat.zero_add, Nat.reduceAdd]
    rw [this]
    simp
theorem gD_len (U : List Nd) : (gD U).length = 2 * (U.length + 1) := by
  have : ∀ U : List Nd, (U.flatMap fun nd => [AO.list [], AO.list (gKd nd.kids)]).length = 2 * U.length := fun U => by
    induction U with
    | nil => rfl
    | cons a U ih => rw [List.flatMap_cons, List.length_append, ih]; simp; omega
  show ([AO.list [], AO.list [.int 1]] ++ _).length = _
  rw [List.length_append, this]
  simp; omega
theorem gD_get {U : List Nd} {p : Nat} {nd : Nd} (h : U[p]? = some nd) : (gD U)[2 * (p + 1) + 1]? = some (.list (gKd nd.kids)) := by
  show ([AO.list [], AO.list [.int 1]] ++ _)[2 * p + 1 + 2]? = _
  rw [List.getElem?_append_right (by simp)]
  simpa using flat_get U p nd h
theorem gD_get0 {U : List Nd} {p : Nat} {nd : Nd} (h : U[p]? = some nd) : (gD U)[2 * (p + 1)]? = some (.list []) := by
  show ([AO.list [], AO.list [.int 1]] ++ _)[2 * p + 2]? = _
  rw [List.getElem?_append_right (by simp)]
  simpa using flat_get0 U p nd h
theorem gD_add {U : List Nd} {p : Nat} {nd nd' : Nd} (h : U[p]? = some nd) (hk : nd'.kids = []) : dPut (gD U) (2 * (p + 1) + 1) (gKd nd.kids) (U.length + 1) = gD (addNd U p nd') := by
  unfold dPut
  have e1 : gD U ++ [AO.list [], AO.list []] = [AO.list [], AO.list [.int 1]] ++ (U.flatMap (fun nd => [AO.list [], AO.list (gKd nd.kids)]) ++ [AO.list [], AO.list []]) := by simp [gD]
  rw [e1]
  show ([AO.list [], AO.list [.int 1]] ++ _).set (2 * p + 1 + 2) _ = _
  rw [List.set_append_right _ _ (by simp)]
  simp only [List.length_cons, List.length_nil, Nat.add_sub_cancel, Nat.zero_add, Nat.reduceAdd]
  have hl : 2 * p + 1 < (U.flatMap (fun nd => [AO.list [], AO.list (gKd nd.kids)])).length := get_lt (flat_get U p nd h)
  rw [List.set_append_left _ _ hl]
  have e2 : gKd nd.kids ++ [GV.int (Int.ofNat (U.length + 1))] = gKd (nd.kids ++ [U.length]) := by simp [gKd]
  rw [e2, flat_set [U.length] U p nd h]
  simp [gD, addNd, hk, gKd]
theorem addNd_len (U : List Nd) (p : Nat) (nd : Nd) : (addNd U p nd).length = U.length + 1 := by simp [addNd]
theorem gKinds_add (U : List Nd) (p : Nat) (nd : Nd) : gKinds U ++ [.str nd.kind] = gKinds (addNd U p nd) := by
  simp [gKinds, addNd, map_modify_same (fun nd : Nd => GV.str nd.kind)]
theorem gSpaces_add (U : List Nd) (p : Nat) (nd : Nd) : gSpaces U ++ [.str nd.space] = gSpaces (addNd U p nd) := by
  simp [gSpaces, addNd, map_modify_same (fun nd : Nd => GV.str nd.space)]
theorem gNames_add (U : List Nd) (p : Nat) (nd : Nd) : gNames U ++ [.str nd.name] = gNames (addNd U p nd) := by
  simp [gNames, addNd, map_modify_same (fun nd : Nd => GV.str nd.name)]
theorem gTexts_add (U : List Nd) (p : Nat) (nd : Nd) : gTexts U ++ [.str nd.text] = gTexts (addNd U p nd) := by
  simp [gTexts, addNd, map_modify_same (fun nd : Nd => GV.str nd.text)]
theorem gPar_add (U : List Nd) (p : Nat) (nd : Nd) : gPar U ++ [.int (.ofNat nd.par)] = gPar (addNd U p nd) := by
  unfold gPar addNd
  rw [List.map_append, map_modify_same (fun nd : Nd => GV.int (.ofNat nd.par)) (fun q : Nd => {q with kids := q.kids ++ [U.length]}) (fun _ => rfl)]; rfl
theorem gAttrs_add (U : List Nd) (p : Nat) (nd : Nd) : gAttrs U ++ [.obj (.d (gD U).length)] = gAttrs (addNd U p nd) := by
  rw [gD_len, gAttrs, gAttrs, addNd_len, List.range_succ (n := U.length + 1), List.map_append]; rfl
theorem gKids_add (U : List Nd) (p : Nat) (nd : Nd) : gKids U ++ [.obj (.d ((gD U).length + 1))] = gKids (addNd U p nd) := by
  rw [gD_len, gKids, gKids, addNd_len, List.range_succ (n := U.length + 1), List.map_append]; rfl
end Mine
end

section
set_option maxRecDepth 100000
set_option autoImplicit false
set_option tactic.hygienic false
namespace Mine
open PySem PySem.W PySem.Calls PyProof.Rows

theorem gItems_cons (t : Nat) (S : List Nat) : gItems (t :: S) = gItems S ++ [.int (.ofNat (t + 1))] := by simp [gItems]
theorem gItems_len (S : List Nat) : (gItems S).length = S.length := by simp [gItems]
structure WF (z : Z) (k : Nat) : Prop where
  fin : z.fin = false
  err : z.err = false
  st : ∀ i ∈ z.S, ∃ nd : Nd, z.U[i]? = some nd ∧ nd.kind = "element"
  root : z.S.getLast? = some 0
  r0 : ∃ nd : Nd, z.U[0]? = some nd ∧ nd.space = "html"
  par : ∀ (i : Nat) (nd : Nd), z.U[i]? = some nd → nd.par ≤ i
  kid : ∀ (i : Nat) (nd : Nd), z.U[i]? = some nd → ∀ j ∈ nd.kids, i < j ∧ j < z.U.length
  knd : ∀ (i : Nat) (nd : Nd), z.U[i]? = some nd → (nd.kind = "element" ∧ (nd.space = "html" ∨ (nd.space = "svg" ∧ (nd.name = "s" ∨ nd.name = "t")))) ∨ nd.kind = "text" ∨ nd.kind = "comment"
  rw : z.raw = true → ∃ (t u : Nat) (r : List Nat) (a b : Nd), z.S = t :: u :: r ∧ z.U[t]? = some a ∧ a.space = "html" ∧ z.U[u]? = some b ∧ b.space = "html"
  szU : z.U.length ≤ k
  szS : z.S.length ≤ k
  szT : ∀ (i : Nat) (nd : Nd), z.U[i]? = some nd → nd.text.length ≤ k ∧ nd.kids.length ≤ k
theorem pa_any {U : List Nd} (h : ∀ (i : Nat) (nd : Nd), U[i]? = some nd → nd.par ≤ i) : ∀ (t : Nat), t ≤ U.length → ∃ v xs, (gPar U)[t]? = some (.int v) ∧ PA (gPar U) v xs ∧ xs.length ≤ t ∧ ∀ g ∈ xs, ∃ w, w < t ∧ g = GV.int (.ofNat w) := by
  intro t
  induction t using Nat.strongRecOn with
  | _ t ih =>
    intro ht
    cases t with
    | zero => exact ⟨-1, [], rfl, .nil, Nat.le_refl _, fun _ h => nomatch h⟩
    | succ i =>
      have hi : i < U.length := ht
      have e := List.getElem?_eq_getElem hi
      have p := h i _ e
      obtain ⟨v, xs, a, b, c, d⟩ := ih (U[i].par) (by omega) (by omega)
      refine ⟨.ofNat U[i].par, .int (.ofNat U[i].par) :: xs, ?_, .cons a b, by simp; omega, fun g hg => ?_⟩
      · show (U.map _)[i]? = _
        rw [List.getElem?_map, e]; rfl
      · rcases List.mem_cons.mp hg with rfl | hg
        · exact ⟨_, by omega, rfl⟩
        · obtain ⟨w, hw, e⟩ := d g hg
          exact ⟨w, by omega, e⟩
theorem memI_none {L : Nat} : ∀ {xs : List GV}, (∀ g ∈ xs, ∃ w, w < L ∧ g = GV.int (.ofNat w)) → memI (.ofNat L) xs = some false
  | [], _ => rfl
  | g :: xs, h => by
    obtain ⟨w, hw, rfl⟩ := h g (.head _)
    unfold memI
    rw [memI_none fun g hg => h g (.tail _ hg)]
    have : ((Int.ofNat w == Int.ofNat L) : Bool) = false := beq_eq_false_iff_ne.mpr fun e => by have := Int.ofNat.inj e; omega
    simp only [this, Bool.false_or]
section
variable {z : Z} {k : Nat} {o : Str} {x : X}
theorem xB_ln (h : z.U.length < 800000) : Ln (xB z o x) (z.U.length + 1) := by
  refine ⟨?_, ?_, ?_, ?_, ?_, ?_, ?_, by omega⟩ <;> simp [xB, gKinds, gSpaces, gNames, gAttrs, gTexts, gPar, gKids]
theorem gKids_get {U : List Nd} {i : Nat} (h : i ≤ U.length) : (gKids U)[i]? = some (.obj (.d (2 * i + 1))) := by
  rw [gKids, List.getElem?_map, List.getElem?_range (by omega)]; rfl
theorem xB_par (W : WF z k) (hk : k < 800000) {t : Nat} {nd : Nd} (e : z.U[t]? = some nd) : ∃ v xs, Par (xB z o x) (gD z.U) (z.U.length + 1) (t + 1) (2 * (t + 1) + 1) (gKd nd.kids) v xs := by
  have ht := get_lt e
  obtain ⟨v, xs, a, b, c, d⟩ := pa_any W.par (t + 1) ht
  have z1 := W.szU
  have z2 := (W.szT _ _ e).2
  exact ⟨v, xs, xB_ln (by omega), a, b, memI_none fun g hg => let ⟨w, hw, e⟩ := d g hg; ⟨w, by omega, e⟩, by omega, gKids_get ht, gD_get e, by simp [gKd]; omega⟩
end
/-- the tokens that come -/
noncomputable def Tk.ok (z : Z) : Tk → Prop
  | .char s => s.length ≤ 100
  | .start nm => z.raw = false ∧ (nm = "b" ∨ nm = "s" ∨ nm = "t")
  | .fin _ => True
  | .com s => z.raw = false ∧ s.length ≤ 100
  | .eof => True
noncomputable def wishOf (z : Z) : Tk → Str
  | .start nm => bif nm == "t" && !z.isFor then "RCDATA" else ""
  | _ => ""
/-- the state behind a token -/
noncomputable def fdX (z : Z) (tk : Tk) (o : Str) (x : X) : X := {xB (z.feed tk) o x with wish := wishOf z tk}

theorem newX_xB {z : Z} {o : Str} {x : X} {p : Nat} {nd' : Nd} (hp : nd'.par = p + 1) :
    newX (xB z o x) (gD z.U).length nd'.kind nd'.space nd'.name nd'.text (p + 1) = xB {z with U := addNd z.U p nd'} o x := by
  unfold newX xB
  congr 1
  · exact gKinds_add ..
  · exact gSpaces_add ..
  · exact gNames_add ..
  · exact gAttrs_add ..
  · exact gTexts_add ..
  · rw [← hp]; exact gPar_add ..
  · exact gKids_add ..
theorem elX_xB {z : Z} {o : Str} {x : X} {p : Nat} {sp nm : Str} : elX (xB z o x) (gD z.U).length sp nm (p + 1) (z.U.length + 1) = xB {z with U := addNd z.U p ⟨"element", sp, nm, "", p + 1, []⟩, S := z.U.length :: z.S} o x := by
  have e := newX_xB (z := z) (o := o) (x := x) (p := p) (nd' := ⟨"element", sp, nm, "", p + 1, []⟩) rfl
  unfold elX
  rw [e]
  show ({xB {z with U := addNd z.U p ⟨"element", sp, nm, "", p + 1, []⟩} o x with items := gItems z.S ++ [.int (.ofNat (z.U.length + 1))]} : X) = _
  rw [← gItems_cons]
  rfl
end Mine
end

section
set_option maxRecDepth 100000
set_option autoImplicit false
set_option tactic.hygienic false
namespace Mine
open PySem PySem.W PySem.Calls PyProof.Rows
theorem at_eq {U : List Nd} {t : Nat} {nd : Nd} (e : U[t]? = some nd) : at_ U t = nd := by unfold at_; rw [e]; rfl
theorem xB_cur {z : Z} {o : Str} {x : X} {t : Nat} {S : List Nat} (h : z.S = t :: S) : IsCur (xB z o x) (t + 1) := by
  refine cur_of (ys := gItems S) ?_
  show gItems z.S = _
  rw [h, gItems_cons]
theorem map_get {α β : Type} {f : α → β} {l : List α} {i : Nat} {a : α} (h : l[i]? = some a) : (l.map f)[i]? = some (f a) := by rw [List.getElem?_map, h]; rfl
theorem gKinds_get {U : List Nd} {t : Nat} {nd : Nd} (e : U[t]? = some nd) : (gKinds U)[t + 1]? = some (.str nd.kind) := map_get (f := fun nd : Nd => GV.str nd.kind) e
theorem gSpaces_get {U : List Nd} {t : Nat} {nd : Nd} (e : U[t]? = some nd) : (gSpaces U)[t + 1]? = some (.str nd.space) := map_get (f := fun nd : Nd => GV.str nd.space) e
theorem gNames_get {U : List Nd} {t : Nat} {nd : Nd} (e : U[t]? = some nd) : (gNames U)[t + 1]? = some (.str nd.name) := map_get (f := fun nd : Nd => GV.str nd.name) e
theorem gTexts_get {U : List Nd} {t : Nat} {nd : Nd} (e : U[t]? = some nd) : (gTexts U)[t + 1]? = some (.str nd.text) := map_get (f := fun nd : Nd => GV.str nd.text) e
theorem gD_modText (f : Nd → Nd) (hf : ∀ a, (f a).kids = a.kids) (U : List Nd) (p : Nat) : gD (U.modify p f) = gD U := by
  have : ∀ (U : List Nd) (p : Nat), ((U.modify p f).flatMap fun nd => [AO.list [], AO.list (gKd nd.kids)]) = U.flatMap fun nd => [AO.list [], AO.list (gKd nd.kids)] := fun U => by
    induction U with
    | nil => intro p; cases p <;> rfl
    | cons a U ih =>
      intro p
      cases p with
      | zero => simp [hf]
      | succ p => simp [ih p]
  unfold gD
  rw [this]
theorem put_none {U : List Nd} {t : Nat} {nd : Nd} {s : Str} (e : U[t]? = some nd) (h : nd.kids = []) : put U t s = addNd U t (txNd t s) := by
  unfold put; rw [at_eq e, h]; rfl
theorem put_text {U : List Nd} {t m : Nat} {nd nd' : Nd} {l : List Nat} {s : Str} (e : U[t]? = some nd) (h : nd.kids = l ++ [m]) (e' : U[m]? = some nd') (hk : nd'.kind = "text") : put U t s = U.modify m (fun q => {q with text := q.text ++ s}) := by
  unfold put
  rw [at_eq e, h, List.getLast?_append]
  show (bif (at_ U m).kind == "text" then _ else _) = _
  rw [at_eq e', hk, beq_self_eq_true]; rfl
theorem put_other {U : List Nd} {t m : Nat} {nd nd' : Nd} {l : List Nat} {s : Str} (e : U[t]? = some nd) (h : nd.kids = l ++ [m]) (e' : U[m]? = some nd') (hk : (nd'.kind == "text") = false) : put U t s = addNd U t (txNd t s) := by
  unfold put
  rw [at_eq e, h, List.getLast?_append]
  show (bif (at_ U m).kind == "text" then _ else _) = _
  rw [at_eq e', hk]; rfl
theorem snoc_of (l : List Nat) : l = [] ∨ ∃ r m, l = r ++ [m] := by
  rcases List.eq_nil_or_concat l with h | ⟨r, m, h⟩
  · exact .inl h
  · exact .inr ⟨r, m, by rw [h, List.concat_eq_append]⟩
theorem xB_mod {z : Z} {o : Str} {x : X} {U' : List Nd} (h1 : gKinds U' = gKinds z.U) (h2 : gSpaces U' = gSpaces z.U) (h3 : gNames U' = gNames z.U) (h4 : gAttrs U' = gAttrs z.U) (h5 : gPar U' = gPar z.U) (h6 : gKids U' = gKids z.U) :
    ({xB z o x with texts := gTexts U'} : X) = xB {z with U := U'} o x := by
  unfold xB
  dsimp only
  rw [h1, h2, h3, h4, h5, h6]
section
variable {K : Frag} (OK : PrOK K PP) {q : Pre} {z : Z} {k : Nat} {o : Str} {x : X} {n : List AO}
include OK
theorem sign_ok (W : WF z k) (hk : k < 800000) {s : Str} (hs : s.length ≤ 100) {t : Nat} {S : List Nat} (hS : z.S = t :: S) :
    ∃ m, ClOK K 90 585 [gB, .str s] (hp q (xB z o x) (gD z.U) n) .none (hp q (xB {z with U := put z.U t s} o x) (gD (put z.U t s)) (n ++ m)) := by
  obtain ⟨nd, e, ek⟩ := W.st t (by rw [hS]; exact .head _)
  have hc : IsCur (xB z o x) (t + 1) := xB_cur hS
  have hkd : (xB z o x).kinds[t + 1]? = some (.str "element") := by rw [← ek]; exact gKinds_get e
  obtain ⟨v, xs, P⟩ := xB_par (o := o) (x := x) W hk e
  rcases snoc_of nd.kids with h0 | ⟨r, m, h1⟩
  · rw [h0] at P
    have R := sign_new0 OK (q := q) (n := n) (sg := s) hc hkd P
    rw [put_none e h0]
    have E := newX_xB (z := z) (o := o) (x := x) (p := t) (nd' := txNd t s) rfl
    have D := gD_add (nd' := txNd t s) e rfl
    rw [h0] at D
    refine ⟨[.list xs], ?_⟩
    rw [← E, ← D]
    exact R.up (by decide)
  · obtain ⟨hm1, hm2⟩ := W.kid _ _ e m (by rw [h1]; simp)
    have e' := List.getElem?_eq_getElem hm2
    generalize z.U[m] = nd' at e'
    have eg : gKd nd.kids = gKd r ++ [.int (.ofNat (m + 1))] := by rw [h1]; simp [gKd]
    have hm : (xB z o x).kinds[m + 1]? = some (.str nd'.kind) := gKinds_get e'
    have other : ∀ kd : Str, nd'.kind = kd → (kd = "element" ∨ kd = "comment") → (kd == "text") = false → ∃ m, ClOK K 90 585 [gB, .str s] (hp q (xB z o x) (gD z.U) n) .none (hp q (xB {z with U := put z.U t s} o x) (gD (put z.U t s)) (n ++ m)) := by
      intro kd ekd hkd' hne
      rw [eg] at P
      have R := sign_new1 OK (q := q) (n := n) (sg := s) hc hkd P (by rw [← ekd]; exact hm) hkd'
      rw [put_other e h1 e' (by rw [ekd]; exact hne)]
      have E := newX_xB (z := z) (o := o) (x := x) (p := t) (nd' := txNd t s) rfl
      have D := gD_add (nd' := txNd t s) e rfl
      rw [eg] at D
      refine ⟨[.list xs], ?_⟩
      rw [← E, ← D]
      exact R.up (by decide)
    rcases W.knd _ _ e' with ⟨a, _⟩ | a | a
    · exact other _ a (.inl rfl) (by decide)
    · rw [put_text e h1 e' a, gD_modText (fun q : Nd => {q with text := q.text ++ s}) (fun _ => rfl)]
      have hx : (xB z o x).texts[m + 1]? = some (.str nd'.text) := gTexts_get e'
      have R := sign_app OK (q := q) (n := n) (d := gD z.U) (sg := s) (zs := gKd r) hc hkd (gKids_get (U := z.U) (get_lt e)) (by rw [← eg]; exact gD_get e) (by rw [← a]; exact hm) hx (by have := (W.szT _ _ e').1; omega)
      refine ⟨[], ?_⟩
      rw [List.append_nil]
      have E : ({xB z o x with texts := (xB z o x).texts.set (m + 1) (.str (nd'.text ++ s))} : X) = xB {z with U := z.U.modify m fun q => {q with text := q.text ++ s}} o x := by
        have T : (xB z o x).texts.set (m + 1) (.str (nd'.text ++ s)) = gTexts (z.U.modify m fun q => {q with text := q.text ++ s}) := (congrArg (List.cons _) (map_modify_set (fun nd : Nd => GV.str nd.text) (fun q : Nd => {q with text := q.text ++ s}) _ _ _ e')).symm
        rw [T]
        exact xB_mod (congrArg (List.cons _) (map_modify_same (fun nd : Nd => GV.str nd.kind) (fun q : Nd => {q with text := q.text ++ s}) (fun _ => rfl) _ _)) (congrArg (List.cons _) (map_modify_same (fun nd : Nd => GV.str nd.space) (fun q : Nd => {q with text := q.text ++ s}) (fun _ => rfl) _ _))
          (congrArg (List.cons _) (map_modify_same (fun nd : Nd => GV.str nd.name) (fun q : Nd => {q with text := q.text ++ s}) (fun _ => rfl) _ _)) (by simp [gAttrs]) (congrArg (List.cons _) (map_modify_same (fun nd : Nd => GV.int (.ofNat nd.par)) (fun q : Nd => {q with text := q.text ++ s}) (fun _ => rfl) _ _)) (by simp [gKids])
      rw [← E]
      exact R.up (by decide)
    · exact other _ a (.inr rfl) (by decide)
end
end Mine
end

section
set_option maxRecDepth 100000
set_option autoImplicit false
set_option tactic.hygienic false
namespace Mine
open PySem PySem.W PySem.Calls PyProof.Rows
section
variable {K : Frag} (OK : PrOK K PP) {q : Pre} {k : Nat} {o : Str} {x : X} {n : List AO} {U : List Nd} {S : List Nat} {t : Nat} {nd : Nd}
include OK
theorem turn_any (W : WF ⟨U, t :: S, false, false, false⟩ k) (e : U[t]? = some nd) (ek : nd.kind = "element") (tk : Tk) :
    ∃ r, ClOK K 40 542 [gB, tk.gv] (hp q (bX (xB ⟨U, t :: S, false, false, false⟩ o x)) (gD U) n) (.bool r) (hp q (bX (xB ⟨U, t :: S, false, false, false⟩ o x)) (gD U) n) := by
  have hc : IsCur (bX (xB ⟨U, t :: S, false, false, false⟩ o x)) (t + 1) := xB_cur (z := ⟨U, t :: S, false, false, false⟩) rfl
  have hs : (bX (xB ⟨U, t :: S, false, false, false⟩ o x)).spaces[t + 1]? = some (.str nd.space) := gSpaces_get e
  have hn : (bX (xB ⟨U, t :: S, false, false, false⟩ o x)).names[t + 1]? = some (.str nd.name) := gNames_get e
  rcases W.knd _ _ e with ⟨_, h | ⟨h, h2⟩⟩ | h | h
  · rw [h] at hs; exact ⟨true, turn_html OK hc hs _⟩
  · rw [h] at hs; exact turn_svg OK hc hs hn h2 tk
  · rw [ek] at h; exact absurd h (by decide)
  · rw [ek] at h; exact absurd h (by decide)
/-- a token that the body takes -/
theorem feed_in (W : WF ⟨U, t :: S, false, false, false⟩ k) (e : U[t]? = some nd) (ek : nd.kind = "element") (tk : Tk) {ah' : AH} (h : ClOK K 130 1095 [gB, tk.gv] (hp q (xB ⟨U, t :: S, false, false, false⟩ o x) (gD U) n) .none ah') :
    ClOK K 200 514 [gB, tk.gv] (hp q (xB ⟨U, t :: S, false, false, false⟩ o x) (gD U) n) .none ah' := by
  obtain ⟨r, ht⟩ := turn_any OK (q := q) (n := n) (o := o) (x := x) W e ek tk
  exact ClOK.up (feed_body OK (x := xB ⟨U, t :: S, false, false, false⟩ o x) tk ht (ClOK.up h (by decide))) (by decide)
theorem fd_char (W : WF ⟨U, t :: S, false, false, false⟩ k) (hk : k < 800000) (s : Str) (hs : s.length ≤ 100) :
    ∃ o' m, ClOK K 200 514 [gB, (Tk.char s).gv] (hp q (xB ⟨U, t :: S, false, false, false⟩ o x) (gD U) n) .none (hp q (fdX ⟨U, t :: S, false, false, false⟩ (.char s) o' x) (gD (Z.feed ⟨U, t :: S, false, false, false⟩ (.char s)).U) (n ++ m)) := by
  obtain ⟨nd, e, ek⟩ := W.st t (.head _)
  obtain ⟨m, R⟩ := sign_ok OK (q := q) (n := n) (o := o) (x := x) W hk hs rfl
  exact ⟨o, m, feed_in OK W e ek (.char s) (ClOK.up (lb_char OK R) (by decide))⟩
theorem fd_com (W : WF ⟨U, t :: S, false, false, false⟩ k) (hk : k < 800000) (s : Str) :
    ∃ o' m, ClOK K 200 514 [gB, (Tk.com s).gv] (hp q (xB ⟨U, t :: S, false, false, false⟩ o x) (gD U) n) .none (hp q (fdX ⟨U, t :: S, false, false, false⟩ (.com s) o' x) (gD (Z.feed ⟨U, t :: S, false, false, false⟩ (.com s)).U) (n ++ m)) := by
  obtain ⟨nd, e, ek⟩ := W.st t (.head _)
  obtain ⟨v, xs, P⟩ := xB_par (o := o) (x := x) W hk e
  have R := comment_ok OK (q := q) (n := n) (sg := s) (xB_cur (o := o) (x := x) (z := ⟨U, t :: S, false, false, false⟩) rfl) P
  have E := newX_xB (z := ⟨U, t :: S, false, false, false⟩) (o := o) (x := x) (p := t) (nd' := ⟨"comment", "", "", s, t + 1, []⟩) rfl
  have D := gD_add (nd' := ⟨"comment", "", "", s, t + 1, []⟩) e rfl
  have E' : newX (xB ⟨U, t :: S, false, false, false⟩ o x) (gD U).length "comment" "" "" s (t + 1) = fdX ⟨U, t :: S, false, false, false⟩ (.com s) o x := E
  rw [D, E'] at R
  exact ⟨o, [.list xs], feed_in OK W e ek (.com s) (ClOK.up (lb_com OK (ClOK.up R (by decide))) (by decide))⟩
theorem fd_eof (W : WF ⟨U, t :: S, false, false, false⟩ k) :
    ∃ o' m, ClOK K 200 514 [gB, Tk.eof.gv] (hp q (xB ⟨U, t :: S, false, false, false⟩ o x) (gD U) n) .none (hp q (fdX ⟨U, t :: S, false, false, false⟩ .eof o' x) (gD (Z.feed ⟨U, t :: S, false, false, false⟩ .eof).U) (n ++ m)) := by
  obtain ⟨nd, e, ek⟩ := W.st t (.head _)
  refine ⟨o, [], ?_⟩
  rw [List.append_nil]
  exact feed_in OK W e ek .eof (ClOK.up (lb_eof OK (ClOK.up (finish_ok OK) (by decide))) (by decide))
theorem fd_fin (W : WF ⟨U, t :: S, false, false, false⟩ k) (nm : Str) :
    ∃ o' m, ClOK K 200 514 [gB, (Tk.fin nm).gv] (hp q (xB ⟨U, t :: S, false, false, false⟩ o x) (gD U) n) .none (hp q (fdX ⟨U, t :: S, false, false, false⟩ (.fin nm) o' x) (gD (Z.feed ⟨U, t :: S, false, false, false⟩ (.fin nm)).U) (n ++ m)) := by
  obtain ⟨nd, e, ek⟩ := W.st t (.head _)
  refine ⟨o, [], ?_⟩
  rw [List.append_nil]
  have hit : (xB ⟨U, t :: S, false, false, false⟩ o x).items = gItems S ++ [.int (.ofNat (t + 1))] := gItems_cons t S
  have hl : (xB ⟨U, t :: S, false, false, false⟩ o x).items.length = S.length + 1 := by rw [hit]; simp [gItems_len]
  have hn : (xB ⟨U, t :: S, false, false, false⟩ o x).names[t + 1]? = some (.str nd.name) := gNames_get e
  have hc : IsCur (xB ⟨U, t :: S, false, false, false⟩ o x) (t + 1) := xB_cur (z := ⟨U, t :: S, false, false, false⟩) rfl
  have hcur : (Z.cur ⟨U, t :: S, false, false, false⟩) = nd := at_eq e
  by_cases h1 : 1 < S.length + 1
  · by_cases h2 : nd.name = nm
    · have F : Z.feed ⟨U, t :: S, false, false, false⟩ (.fin nm) = ⟨U, S, false, false, false⟩ := by
        show (bif decide (1 < (t :: S).length) && (Z.cur ⟨U, t :: S, false, false, false⟩).name == nm then _ else _) = _
        rw [hcur, h2, beq_self_eq_true, decide_eq_true (by simpa using h1)]; rfl
      rw [h2] at hn
      have R := lb_end3 OK (q := q) (d := gD U) (n := n) hit (by rw [hl]; exact h1) hn
      unfold fdX
      rw [F]
      exact feed_in OK W e ek (.fin nm) (ClOK.up R (by decide))
    · have F : Z.feed ⟨U, t :: S, false, false, false⟩ (.fin nm) = ⟨U, t :: S, false, false, false⟩ := by
        show (bif decide (1 < (t :: S).length) && (Z.cur ⟨U, t :: S, false, false, false⟩).name == nm then _ else _) = _
        rw [hcur, beq_eq_false_iff_ne.mpr h2, Bool.and_false]; rfl
      have R := lb_end2 OK (q := q) (d := gD U) (n := n) (nm := nm) hc (by rw [hl]; exact h1) hn (beq_eq_false_iff_ne.mpr h2)
      unfold fdX
      rw [F]
      exact feed_in OK W e ek (.fin nm) (ClOK.up R (by decide))
  · have F : Z.feed ⟨U, t :: S, false, false, false⟩ (.fin nm) = ⟨U, t :: S, false, false, false⟩ := by
      show (bif decide (1 < (t :: S).length) && (Z.cur ⟨U, t :: S, false, false, false⟩).name == nm then _ else _) = _
      rw [decide_eq_false (by simpa using h1), Bool.false_and]; rfl
    have R := lb_end1 OK (q := q) (x := xB ⟨U, t :: S, false, false, false⟩ o x) (d := gD U) (n := n) (nm := nm) (by rw [hl]; omega)
    unfold fdX
    rw [F]
    exact feed_in OK W e ek (.fin nm) (ClOK.up R (by decide))
end
end Mine
end

section
set_option maxRecDepth 100000
set_option autoImplicit false
set_option tactic.hygienic false
namespace Mine
open PySem PySem.W PySem.Calls PyProof.Rows
theorem pops_S {U : List Nd} {r0 : Nd} (h0 : U[0]? = some r0) (h0s : r0.space = "html") : ∀ S : List Nat, (∀ i ∈ S, ∃ nd : Nd, U[i]? = some nd ∧ (nd.space = "html" ∨ nd.space = "svg")) → S.getLast? = some 0 →
    ∃ (u : Nat) (S' : List Nat) (nd : Nd), (S.dropWhile fun i => (at_ U i).space == "svg") = u :: S' ∧ U[u]? = some nd ∧ nd.space = "html" ∧ Pops (gSpaces U) (gItems S) (gItems (u :: S')) ∧ u ∈ S ∧ S'.length < S.length
  | [], _, h => by cases h
  | i :: S, hS, hl => by
    obtain ⟨nd, e, he⟩ := hS i (.head _)
    by_cases hs : nd.space = "html"
    · refine ⟨i, S, nd, ?_, e, hs, ?_, .head _, by simp⟩
      · rw [List.dropWhile_cons, at_eq e, hs]; rfl
      · rw [gItems_cons]
        exact .stop (by rw [← hs]; exact gSpaces_get e)
    · have hv : nd.space = "svg" := he.resolve_left hs
      cases S with
      | nil =>
        have : i = 0 := by simpa using hl
        subst this
        rw [h0] at e; cases e; exact absurd h0s hs
      | cons j S =>
        obtain ⟨u, S', nd', a, b, c, d, f, g⟩ := pops_S h0 h0s (j :: S) (fun i hi => hS i (.tail _ hi)) (by rw [List.getLast?_cons_cons] at hl; exact hl)
        refine ⟨u, S', nd', ?_, b, c, ?_, .tail _ f, by simp at g ⊢; omega⟩
        · rw [List.dropWhile_cons, at_eq e, hv]; exact a
        · rw [gItems_cons i]
          exact .pop (by rw [← hv]; exact gSpaces_get e) d
theorem WF.sp {z : Z} {k : Nat} (W : WF z k) : ∀ i ∈ z.S, ∃ nd : Nd, z.U[i]? = some nd ∧ (nd.space = "html" ∨ nd.space = "svg") := fun i hi => by
  obtain ⟨nd, e, ek⟩ := W.st i hi
  rcases W.knd _ _ e with ⟨_, h | ⟨h, _⟩⟩ | h | h
  · exact ⟨nd, e, .inl h⟩
  · exact ⟨nd, e, .inr h⟩
  · rw [ek] at h; exact absurd h (by decide)
  · rw [ek] at h; exact absurd h (by decide)
section
variable {K : Frag} (OK : PrOK K PP) {q : Pre} {k : Nat} {o : Str} {x : X} {n : List AO} {U : List Nd} {S : List Nat} {t : Nat} {nd : Nd}
include OK
theorem fd_start (W : WF ⟨U, t :: S, false, false, false⟩ k) (hk : k < 800000) (nm : Str) (hnm : nm = "b" ∨ nm = "s" ∨ nm = "t") :
    ∃ o' m, ClOK K 200 514 [gB, (Tk.start nm).gv] (hp q (xB ⟨U, t :: S, false, false, false⟩ o x) (gD U) n) .none (hp q (fdX ⟨U, t :: S, false, false, false⟩ (.start nm) o' x) (gD (Z.feed ⟨U, t :: S, false, false, false⟩ (.start nm)).U) (n ++ m)) := by
  obtain ⟨nd, e, ek⟩ := W.st t (.head _)
  have hl : (xB ⟨U, t :: S, false, false, false⟩ o x).items.length < 1000000 := by
    show (gItems (t :: S)).length < _
    rw [gItems_len]; have := W.szS; simp at this ⊢; omega
  have hc : IsCur (xB ⟨U, t :: S, false, false, false⟩ o x) (t + 1) := xB_cur (z := ⟨U, t :: S, false, false, false⟩) rfl
  have hs : (xB ⟨U, t :: S, false, false, false⟩ o x).spaces[t + 1]? = some (.str nd.space) := gSpaces_get e
  have hcur : (Z.cur ⟨U, t :: S, false, false, false⟩) = nd := at_eq e
  obtain ⟨v, xs, P⟩ := xB_par (o := o) (x := x) W hk e
  have feedE : Z.feed ⟨U, t :: S, false, false, false⟩ (.start nm) = bif (Z.isFor ⟨U, t :: S, false, false, false⟩) && !(nm == "b") then (Z.open_ ⟨U, t :: S, false, false, false⟩ "svg" nm) else bif nm == "t" then {Z.open_ ⟨U, t :: S, false, false, false⟩ "html" "t" with raw := true} else (Z.out ⟨U, t :: S, false, false, false⟩).open_ (bif nm == "s" then "svg" else "html") nm := rfl
  have isF : Z.isFor ⟨U, t :: S, false, false, false⟩ = (nd.space == "svg") := by
    show ((Z.cur ⟨U, t :: S, false, false, false⟩).space == "svg") = _
    rw [hcur]
  have D : ∀ sp' nm' : Str, dPut (gD U) (2 * (t + 1) + 1) (gKd nd.kids) (U.length + 1) = gD (addNd U t ⟨"element", sp', nm', "", t + 1, []⟩) := fun _ _ => gD_add e rfl
  have Ex : ∀ sp' nm' : Str, elX (xB ⟨U, t :: S, false, false, false⟩ o x) (gD U).length sp' nm' (t + 1) (U.length + 1) = xB (Z.open_ ⟨U, t :: S, false, false, false⟩ sp' nm') o x := fun _ _ => elX_xB (z := ⟨U, t :: S, false, false, false⟩)
  obtain ⟨r0, h0, h0s⟩ := W.r0
  by_cases hb : nm = "b"
  · subst hb
    obtain ⟨u, S', ndu, a1, a2, a3, a4, a5, a6⟩ := pops_S h0 h0s (t :: S) W.sp W.root
    obtain ⟨v', xs', P'⟩ := xB_par (o := o) (x := x) W hk a2
    have hsp : nd.space = "svg" ∨ nd.space = "html" := by
      obtain ⟨nd', e', h⟩ := W.sp t (.head _)
      have e' : U[t]? = some nd' := e'
      rw [e] at e'; cases e'; exact h.symm
    have R := lb_start_b OK (q := q) (n := n) (ys := gItems S') (t := u + 1) (i := 2 * (u + 1) + 1) hc hs hsp (by
      show Pops (gSpaces U) (gItems (t :: S)) _
      rw [← gItems_cons]; exact a4) P' (by rw [← gItems_cons, gItems_len]; have := W.szS; simp at a6 this ⊢; omega)
    have hout : Z.out ⟨U, t :: S, false, false, false⟩ = ⟨U, u :: S', false, false, false⟩ := by
      show Z.mk U ((t :: S).dropWhile fun i => (at_ U i).space == "svg") false false false = _
      rw [a1]
    have F : Z.feed ⟨U, t :: S, false, false, false⟩ (.start "b") = Z.open_ ⟨U, u :: S', false, false, false⟩ "html" "b" := by
      rw [feedE, show (!(("b" : Str) == "b")) = false from rfl, Bool.and_false, hout]; rfl
    have Ex' : elX {xB ⟨U, t :: S, false, false, false⟩ o x with items := gItems S' ++ [.int (.ofNat (u + 1))]} (gD U).length "html" "b" (u + 1) (U.length + 1) = xB (Z.open_ ⟨U, u :: S', false, false, false⟩ "html" "b") o x := by
      rw [← gItems_cons]
      exact elX_xB (z := ⟨U, u :: S', false, false, false⟩)
    have D' : dPut (gD U) (2 * (u + 1) + 1) (gKd ndu.kids) (U.length + 1) = gD (Z.open_ ⟨U, u :: S', false, false, false⟩ "html" "b").U := gD_add a2 rfl
    rw [Ex', D'] at R
    refine ⟨o, [.list xs'], ?_⟩
    unfold fdX
    rw [F]
    exact feed_in OK W e ek (.start "b") (ClOK.up R (by decide))
  · have hnb : (nm == "b") = false := beq_eq_false_iff_ne.mpr hb
    have hnm' : nm = "s" ∨ nm = "t" := hnm.resolve_left hb
    by_cases hf : nd.space = "svg"
    · rw [hf] at hs
      have R := lb_start_for OK (q := q) (n := n) hc hs hnm' P hl
      have F : Z.feed ⟨U, t :: S, false, false, false⟩ (.start nm) = Z.open_ ⟨U, t :: S, false, false, false⟩ "svg" nm := by
        rw [feedE, isF, hf, hnb]; rfl
      have W0 : wishOf ⟨U, t :: S, false, false, false⟩ (.start nm) = "" := by
        show (bif nm == "t" && !(Z.isFor ⟨U, t :: S, false, false, false⟩) then ("RCDATA" : Str) else "") = _
        rw [isF, hf]
        show (bif nm == "t" && !true then ("RCDATA" : Str) else "") = _
        rw [Bool.not_true, Bool.and_false]; rfl
      rw [Ex, D "svg" nm] at R
      refine ⟨o, [.list xs], ?_⟩
      unfold fdX
      rw [F, W0]
      exact feed_in OK W e ek (.start nm) (ClOK.up R (by decide))
    · have hh : nd.space = "html" := by
        obtain ⟨nd', e', h⟩ := W.sp t (.head _)
        have e' : U[t]? = some nd' := e'
        rw [e] at e'; cases e'; exact h.resolve_right hf
      rw [hh] at hs
      have isF' : Z.isFor ⟨U, t :: S, false, false, false⟩ = false := by rw [isF, hh]; rfl
      rcases hnm' with rfl | rfl
      · have R := lb_start_s OK (q := q) (n := n) (ys := gItems S) (gItems_cons t S) hs P hl
        have hout : Z.out ⟨U, t :: S, false, false, false⟩ = ⟨U, t :: S, false, false, false⟩ := by
          show Z.mk U ((t :: S).dropWhile fun i => (at_ U i).space == "svg") false false false = _
          rw [List.dropWhile_cons, at_eq e, hh]; rfl
        have F : Z.feed ⟨U, t :: S, false, false, false⟩ (.start "s") = Z.open_ ⟨U, t :: S, false, false, false⟩ "svg" "s" := by
          rw [feedE, isF', hout]; rfl
        rw [Ex, D "svg" "s"] at R
        refine ⟨o, [.list xs], ?_⟩
        unfold fdX
        rw [F]
        exact feed_in OK W e ek (.start "s") (ClOK.up R (by decide))
      · have R := lb_start_raw OK (q := q) (n := n) hc hs P hl
        have F : Z.feed ⟨U, t :: S, false, false, false⟩ (.start "t") = {Z.open_ ⟨U, t :: S, false, false, false⟩ "html" "t" with raw := true} := by
          rw [feedE, isF']; rfl
        have W0 : wishOf ⟨U, t :: S, false, false, false⟩ (.start "t") = "RCDATA" := by
          show (bif ("t" : Str) == "t" && !(Z.isFor ⟨U, t :: S, false, false, false⟩) then ("RCDATA" : Str) else "") = _
          rw [isF']; rfl
        rw [Ex, D "html" "t"] at R
        refine ⟨o, [.list xs], ?_⟩
        unfold fdX
        rw [F, W0]
        exact feed_in OK W e ek (.start "t") (ClOK.up R (by decide))
end
end Mine
end

section
set_option maxRecDepth 100000
set_option autoImplicit false
set_option tactic.hygienic false
namespace Mine
open PySem PySem.W PySem.Calls PyProof.Rows
section
variable {K : Frag} (OK : PrOK K PP) {q : Pre} {k : Nat} {o : Str} {x : X} {n : List AO} {U : List Nd} {S : List Nat} {t : Nat} {nd : Nd}
include OK
theorem fr_turn (W : WF ⟨U, t :: S, true, false, false⟩ k) (tk : GV) : ClOK K 40 542 [gB, tk] (hp q (xB ⟨U, t :: S, true, false, false⟩ o x) (gD U) n) (.bool true) (hp q (xB ⟨U, t :: S, true, false, false⟩ o x) (gD U) n) := by
  obtain ⟨t', u, r, a, b, e, h1, h2, h3, h4⟩ := W.rw rfl
  cases e
  exact turn_html OK (xB_cur (z := ⟨U, t :: u :: r, true, false, false⟩) rfl) (by rw [← h2]; exact gSpaces_get h1) tk
theorem fr_char (W : WF ⟨U, t :: S, true, false, false⟩ k) (hk : k < 800000) (s : Str) (hs : s.length ≤ 100) :
    ∃ o' m, ClOK K 200 514 [gB, (Tk.char s).gv] (hp q (xB ⟨U, t :: S, true, false, false⟩ o x) (gD U) n) .none (hp q (fdX ⟨U, t :: S, true, false, false⟩ (.char s) o' x) (gD (Z.feed ⟨U, t :: S, true, false, false⟩ (.char s)).U) (n ++ m)) := by
  obtain ⟨m, R⟩ := sign_ok OK (q := q) (n := n) (o := o) (x := x) W hk hs rfl
  exact ⟨o, m, feed_text OK (x := xB ⟨U, t :: S, true, false, false⟩ o x) (.char s) (fr_turn OK (o := o) (x := x) W _) (ClOK.up (tm_char OK R) (by decide))⟩
theorem fr_fin (W : WF ⟨U, t :: S, true, false, false⟩ k) (nm : Str) :
    ∃ o' m, ClOK K 200 514 [gB, (Tk.fin nm).gv] (hp q (xB ⟨U, t :: S, true, false, false⟩ o x) (gD U) n) .none (hp q (fdX ⟨U, t :: S, true, false, false⟩ (.fin nm) o' x) (gD (Z.feed ⟨U, t :: S, true, false, false⟩ (.fin nm)).U) (n ++ m)) := by
  refine ⟨"in body", [], ?_⟩
  rw [List.append_nil]
  exact feed_text OK (x := xB ⟨U, t :: S, true, false, false⟩ o x) (.fin nm) (fr_turn OK (o := o) (x := x) W _) (ClOK.up (tm_end OK (q := q) (x := xB ⟨U, t :: S, true, false, false⟩ o x) (ys := gItems S) (gItems_cons t S)) (by decide))
theorem fr_eof (W : WF ⟨U, t :: S, true, false, false⟩ k) :
    ∃ o' m, ClOK K 200 514 [gB, Tk.eof.gv] (hp q (xB ⟨U, t :: S, true, false, false⟩ o x) (gD U) n) .none (hp q (fdX ⟨U, t :: S, true, false, false⟩ .eof o' x) (gD (Z.feed ⟨U, t :: S, true, false, false⟩ .eof).U) (n ++ m)) := by
  refine ⟨"in body", [], ?_⟩
  rw [List.append_nil]
  have T := fr_turn OK (q := q) (n := n) (o := o) (x := x) W Tk.eof.gv
  obtain ⟨t', u, r, a, b, e, h1, h2, h3, h4⟩ := W.rw rfl
  cases e
  have hit : (xB ⟨U, t :: u :: r, true, false, false⟩ o x).items = gItems r ++ [.int (.ofNat (u + 1))] ++ [.int (.ofNat (t + 1))] := by
    show gItems (t :: u :: r) = _
    rw [gItems_cons, gItems_cons]
  exact feed_text OK (x := xB ⟨U, t :: u :: r, true, false, false⟩ o x) .eof T (tm_eof OK hit (by rw [← h4]; exact gSpaces_get h3) (by show (0 : Nat) < 1000000; decide))
end
section
variable {K : Frag} (OK : PrOK K PP) {q : Pre} {z : Z} {k : Nat} {o : Str} {x : X} {n : List AO}
include OK
theorem feed_ok (W : WF z k) (hk : k < 800000) (tk : Tk) (T : tk.ok z) :
    ∃ o' m, ClOK K 200 514 [gB, tk.gv] (hp q (xB z o x) (gD z.U) n) .none (hp q (fdX z tk o' x) (gD (z.feed tk).U) (n ++ m)) := by
  obtain ⟨U, S0, raw, fin, err⟩ := z
  have h1 : fin = false := W.fin
  have h2 : err = false := W.err
  subst h1 h2
  cases S0 with
  | nil => have := W.root; cases this
  | cons t S =>
    cases raw with
    | false =>
      cases tk with
      | char s => exact fd_char OK W hk s T
      | com s => exact fd_com OK W hk s
      | eof => exact fd_eof OK W
      | fin nm => exact fd_fin OK W nm
      | start nm => exact fd_start OK W hk nm T.2
    | true =>
      cases tk with
      | char s => exact fr_char OK W hk s T
      | com s => have := T.1; cases this
      | eof => exact fr_eof OK W
      | fin nm => exact fr_fin OK W nm
      | start nm => have := T.1; cases this
end

/-! ## what stays true -/
theorem add_get_lt {U : List Nd} {p i : Nat} {nd : Nd} (h : i < U.length) : (addNd U p nd)[i]? = (U[i]?).map fun q => if i = p then {q with kids := q.kids ++ [U.length]} else q := by
  unfold addNd
  rw [List.getElem?_append_left (by simpa using h), List.getElem?_modify]
  by_cases e : p = i
  · subst e; simp
  · have e' : ¬ i = p := fun q => e q.symm
    simp [e, e']
theorem add_get_eq {U : List Nd} {p : Nat} {nd : Nd} : (addNd U p nd)[U.length]? = some nd := by
  unfold addNd
  rw [List.getElem?_append_right (by simp)]; simp
theorem add_inv {U : List Nd} {p i : Nat} {nd a : Nd} (h : (addNd U p nd)[i]? = some a) : (i < U.length ∧ ∃ q, U[i]? = some q ∧ a = (if i = p then {q with kids := q.kids ++ [U.length]} else q)) ∨ (i = U.length ∧ a = nd) := by
  have hl := get_lt h
  rw [addNd_len] at hl
  rcases Nat.lt_or_ge i U.length with q | q
  · rw [add_get_lt q] at h
    cases e : U[i]? with
    | none => rw [e] at h; cases h
    | some b => rw [e] at h; simp at h; exact .inl ⟨q, b, rfl, h.symm⟩
  · have : i = U.length := by omega
    subst this
    rw [add_get_eq] at h; cases h
    exact .inr ⟨rfl, rfl⟩
/-- a node added under the current one -/
theorem WF.add {z : Z} {k : Nat} (W : WF z k) (nd : Nd) (hp : nd.par = z.top + 1) (hk : nd.kids = []) (hs : nd.text.length ≤ k + 100) (hkd : (nd.kind = "element" ∧ (nd.space = "html" ∨ (nd.space = "svg" ∧ (nd.name = "s" ∨ nd.name = "t")))) ∨ nd.kind = "text" ∨ nd.kind = "comment") :
    WF {z with U := addNd z.U z.top nd} (k + 100) := by
  have hS : z.S ≠ [] := fun e => by have := W.root; rw [e] at this; cases this
  have htop : z.top ∈ z.S := by
    unfold Z.top
    cases e : z.S with
    | nil => exact absurd e hS
    | cons a l => exact .head _
  obtain ⟨tn, te, _⟩ := W.st _ htop
  have tl := get_lt te
  have old : ∀ {i : Nat} {a : Nd}, z.U[i]? = some a → (addNd z.U z.top nd)[i]? = some (if i = z.top then {a with kids := a.kids ++ [z.U.length]} else a) := fun {i a} e => by rw [add_get_lt (get_lt e), e]; rfl
  refine ⟨W.fin, W.err, fun i hi => ?_, W.root, ?_, fun i a h => ?_, fun i a h => ?_, fun i a h => ?_, fun h => ?_, ?_, ?_, fun i a h => ?_⟩
  · obtain ⟨a, e, b⟩ := W.st i hi
    refine ⟨_, old e, ?_⟩
    split <;> exact b
  · obtain ⟨a, e, b⟩ := W.r0
    refine ⟨_, old e, ?_⟩
    split <;> exact b
  · rcases add_inv h with ⟨_, b, e, rfl⟩ | ⟨rfl, rfl⟩
    · have := W.par _ _ e
      split <;> exact this
    · rw [hp]; exact tl
  · intro j hj
    show i < j ∧ j < (addNd z.U z.top nd).length
    rw [addNd_len]
    rcases add_inv h with ⟨hi, b, e, rfl⟩ | ⟨rfl, rfl⟩
    · by_cases q : i = z.top
      · rw [if_pos q] at hj
        rcases List.mem_append.mp hj with hj | hj
        · have := W.kid _ _ e j hj; omega
        · have := List.mem_singleton.mp hj; omega
      · rw [if_neg q] at hj
        have := W.kid _ _ e j hj; omega
    · rw [hk] at hj; cases hj
  · rcases add_inv h with ⟨_, b, e, rfl⟩ | ⟨rfl, rfl⟩
    · have := W.knd _ _ e
      split <;> exact this
    · exact hkd
  · obtain ⟨t, u, r, a, b, e, h1, h2, h3, h4⟩ := W.rw h
    refine ⟨t, u, r, _, _, e, old h1, ?_, old h3, ?_⟩
    · split <;> exact h2
    · split <;> exact h4
  · show (addNd z.U z.top nd).length ≤ _; rw [addNd_len]; have := W.szU; omega
  · have := W.szS; exact Nat.le_trans this (Nat.le_add_right _ _)
  · rcases add_inv h with ⟨_, b, e, rfl⟩ | ⟨rfl, rfl⟩
    · have := W.szT _ _ e
      split
      · exact ⟨by show b.text.length ≤ _; omega, by show (b.kids ++ [_]).length ≤ _; simp; omega⟩
      · omega
    · exact ⟨hs, by rw [hk]; exact Nat.zero_le _⟩
theorem WF.up {z : Z} {k l : Nat} (W : WF z k) (h : k ≤ l) : WF z l :=
  ⟨W.fin, W.err, W.st, W.root, W.r0, W.par, W.kid, W.knd, W.rw, Nat.le_trans W.szU h, Nat.le_trans W.szS h, fun i a e => ⟨Nat.le_trans (W.szT i a e).1 h, Nat.le_trans (W.szT i a e).2 h⟩⟩
end Mine
end

section
set_option maxRecDepth 100000
set_option autoImplicit false
set_option tactic.hygienic false
namespace Mine
open PySem PySem.W PySem.Calls PyProof.Rows
theorem str_len_app (a b : Str) : (a ++ b).length = a.length + b.length := by
  show (a.cps ++ b.cps).size = _
  rw [Array.size_append]; rfl
theorem mod_inv {U : List Nd} {m i : Nat} {f : Nd → Nd} {a : Nd} (h : (U.modify m f)[i]? = some a) : ∃ q, U[i]? = some q ∧ a = (if i = m then f q else q) := by
  rw [List.getElem?_modify] at h
  cases e : U[i]? with
  | none => rw [e] at h; simp at h
  | some b =>
    rw [e] at h
    refine ⟨b, rfl, ?_⟩
    by_cases q : m = i
    · subst q; simp at h; simp [h]
    · have q' : ¬ i = m := fun e => q e.symm
      simp [q] at h
      simp [q', h]
theorem mod_get {U : List Nd} {m i : Nat} {f : Nd → Nd} {a : Nd} (h : U[i]? = some a) : (U.modify m f)[i]? = some (if i = m then f a else a) := by
  rw [List.getElem?_modify, h]
  by_cases q : m = i
  · subst q; simp
  · have q' : ¬ i = m := fun e => q e.symm
    simp [q, q']
/-- a text grown -/
theorem WF.grow {z : Z} {k : Nat} (W : WF z k) (m : Nat) (s : Str) (hs : s.length ≤ 100) : WF {z with U := z.U.modify m fun q => {q with text := q.text ++ s}} (k + 100) := by
  have old : ∀ {i : Nat} {a : Nd}, z.U[i]? = some a → (z.U.modify m fun q => {q with text := q.text ++ s})[i]? = some (if i = m then {a with text := a.text ++ s} else a) := fun e => mod_get e
  refine ⟨W.fin, W.err, fun i hi => ?_, W.root, ?_, fun i a h => ?_, fun i a h => ?_, fun i a h => ?_, fun h => ?_, ?_, ?_, fun i a h => ?_⟩
  · obtain ⟨a, e, b⟩ := W.st i hi
    refine ⟨_, old e, ?_⟩
    split <;> exact b
  · obtain ⟨a, e, b⟩ := W.r0
    refine ⟨_, old e, ?_⟩
    split <;> exact b
  · obtain ⟨b, e, rfl⟩ := mod_inv h
    have := W.par _ _ e
    split <;> exact this
  · intro j hj
    obtain ⟨b, e, rfl⟩ := mod_inv h
    show i < j ∧ j < (z.U.modify m _).length
    rw [List.length_modify]
    refine W.kid _ _ e j ?_
    split at hj <;> exact hj
  · obtain ⟨b, e, rfl⟩ := mod_inv h
    have := W.knd _ _ e
    split <;> exact this
  · obtain ⟨t, u, r, a, b, e, h1, h2, h3, h4⟩ := W.rw h
    refine ⟨t, u, r, _, _, e, old h1, ?_, old h3, ?_⟩
    · split <;> exact h2
    · split <;> exact h4
  · show (z.U.modify m _).length ≤ _; rw [List.length_modify]; have := W.szU; omega
  · have := W.szS; exact Nat.le_trans this (Nat.le_add_right _ _)
  · obtain ⟨b, e, rfl⟩ := mod_inv h
    have := W.szT _ _ e
    split
    · refine ⟨?_, by show b.kids.length ≤ _; omega⟩
      show (b.text ++ s).length ≤ _
      rw [str_len_app]; omega
    · omega
theorem WF.topIn {z : Z} {k : Nat} (W : WF z k) : ∃ t S nd, z.S = t :: S ∧ z.top = t ∧ z.U[t]? = some nd := by
  cases e : z.S with
  | nil => have := W.root; rw [e] at this; cases this
  | cons a l =>
    obtain ⟨nd, e', _⟩ := W.st a (by rw [e]; exact .head _)
    exact ⟨a, l, nd, rfl, by unfold Z.top; rw [e]; rfl, e'⟩
theorem WF.put {z : Z} {k : Nat} (W : WF z k) (s : Str) (hs : s.length ≤ 100) : WF {z with U := put z.U z.top s} (k + 100) := by
  obtain ⟨t, S, nd, eS, et, e⟩ := W.topIn
  have A := W.add (txNd z.top s) rfl rfl (by show s.length ≤ _; omega) (.inr (.inl rfl))
  rcases snoc_of nd.kids with h | ⟨r, m, h⟩
  · rw [put_none (by rw [et]; exact e) h]; exact A
  · obtain ⟨hm1, hm2⟩ := W.kid _ _ e m (by rw [h]; simp)
    have e' := List.getElem?_eq_getElem hm2
    by_cases q : (z.U[m]).kind = "text"
    · rw [put_text (by rw [et]; exact e) h e' q]; exact W.grow m s hs
    · rw [put_other (by rw [et]; exact e) h e' (beq_eq_false_iff_ne.mpr q)]; exact A
/-- the stack cut -/
theorem WF.cut {z : Z} {k : Nat} (W : WF z k) {S : List Nat} (h : S <:+ z.S) (hS : S ≠ []) : WF {z with S := S, raw := false} k :=
  ⟨W.fin, W.err, fun i hi => W.st i (h.subset hi), by
    obtain ⟨p, e⟩ := h
    have := W.root
    rw [← e, List.getLast?_append] at this
    show S.getLast? = some 0
    cases q : S.getLast? with
    | none => exact absurd (List.getLast?_eq_none_iff.mp q) hS
    | some a => rw [q] at this; exact this, W.r0, W.par, W.kid, W.knd, fun h => (by cases h), W.szU, Nat.le_trans h.length_le W.szS, W.szT⟩
theorem WF.cut' {z : Z} {k : Nat} (W : WF z k) (hr : z.raw = false) {S : List Nat} (h : S <:+ z.S) (hS : S ≠ []) : WF {z with S := S} k := by
  have := W.cut h hS
  rw [show ({z with S := S} : Z) = {z with S := S, raw := false} by rw [← hr]]
  exact this
theorem WF.open_ {z : Z} {k : Nat} (W : WF z k) (hr : z.raw = false) (sp nm : Str) (h : sp = "html" ∨ (sp = "svg" ∧ (nm = "s" ∨ nm = "t"))) : WF (z.open_ sp nm) (k + 100) := by
  have A := W.add ⟨"element", sp, nm, "", z.top + 1, []⟩ rfl rfl (by show 0 ≤ _; omega) (.inl ⟨rfl, h⟩)
  obtain ⟨t, S, nd, eS, et, e⟩ := W.topIn
  refine ⟨A.fin, A.err, fun i hi => ?_, ?_, A.r0, A.par, A.kid, A.knd, fun h => ?_, A.szU, ?_, A.szT⟩
  · rcases List.mem_cons.mp hi with rfl | hi
    · exact ⟨_, add_get_eq, rfl⟩
    · exact A.st i hi
  · show (z.U.length :: z.S).getLast? = _
    rw [eS, List.getLast?_cons_cons, ← eS]; exact W.root
  · have h : z.raw = true := h
    rw [hr] at h; cases h
  · show (z.U.length :: z.S).length ≤ _
    have := W.szS; simp; omega
theorem WF.feed {z : Z} {k : Nat} (W : WF z k) (tk : Tk) (T : tk.ok z) (ne : tk ≠ .eof) : WF (z.feed tk) (k + 100) := by
  obtain ⟨t, S, nd, eS, et, e⟩ := W.topIn
  cases tk with
  | char s => exact W.put s T
  | com s => exact W.add _ rfl rfl (by show s.length ≤ _; have := T.2; omega) (.inr (.inr rfl))
  | eof => exact absurd rfl ne
  | fin nm =>
    show WF (bif z.raw then _ else _) _
    cases hr : z.raw with
    | true =>
      obtain ⟨t', u, r, a, b, e1, _⟩ := W.rw hr
      exact WF.up (l := k + 100) (W.cut (S := z.S.tail) (List.tail_suffix _) (by rw [e1]; simp)) (by omega)
    | false =>
      show WF (bif (decide (1 < z.S.length) && z.cur.name == nm) then _ else _) _
      cases q : (decide (1 < z.S.length) && z.cur.name == nm) with
      | true =>
        have h1 : 1 < z.S.length := of_decide_eq_true (Bool.and_eq_true_iff.mp q).1
        exact WF.up (l := k + 100) (W.cut (S := z.S.tail) (List.tail_suffix _) (by rw [eS] at h1 ⊢; simp at h1 ⊢; intro q; rw [q] at h1; simp at h1)) (by omega)
      | false => exact W.up (by omega)
  | start nm =>
    obtain ⟨hr, hnm⟩ := T
    show WF (bif z.isFor && !(nm == "b") then z.open_ "svg" nm else bif nm == "t" then {z.open_ "html" "t" with raw := true} else z.out.open_ (bif nm == "s" then "svg" else "html") nm) _
    have hcur : z.cur = nd := by unfold Z.cur; rw [et]; exact at_eq e
    cases q : (z.isFor && !(nm == "b")) with
    | true =>
      have : nm = "s" ∨ nm = "t" := hnm.resolve_left (by rintro rfl; revert q; cases z.isFor <;> decide)
      exact W.open_ hr _ _ (.inr ⟨rfl, this⟩)
    | false =>
      show WF (bif nm == "t" then {z.open_ "html" "t" with raw := true} else z.out.open_ (bif nm == "s" then "svg" else "html") nm) _
      obtain ⟨r0, h0, h0s⟩ := W.r0
      obtain ⟨u, S', ndu, a1, a2, a3, a4, a5, a6⟩ := pops_S h0 h0s z.S W.sp W.root
      have hout : WF z.out k := W.cut' hr (S := z.S.dropWhile fun i => (at_ z.U i).space == "svg") (List.dropWhile_suffix _) (by rw [a1]; simp)
      rcases hnm with rfl | rfl | rfl
      · exact hout.open_ hr _ _ (.inl rfl)
      · exact hout.open_ hr _ _ (.inr ⟨rfl, .inl rfl⟩)
      · have hns : nd.space = "html" := by
          have q : z.isFor = false := by revert q; cases z.isFor <;> decide
          unfold Z.isFor at q
          rw [hcur] at q
          obtain ⟨nd', e', h⟩ := W.sp t (by rw [eS]; exact .head _)
          rw [e] at e'; cases e'
          exact h.resolve_right (beq_eq_false_iff_ne.mp q)
        have A := W.open_ hr "html" "t" (.inl rfl)
        exact ⟨A.fin, A.err, A.st, A.root, A.r0, A.par, A.kid, A.knd, fun _ => ⟨z.U.length, t, S, _, _, by show z.U.length :: z.S = _; rw [eS], add_get_eq, rfl, by show (addNd z.U z.top _)[t]? = _; rw [add_get_lt (get_lt e), e]; rfl, by split <;> exact hns⟩, A.szU, A.szS, A.szT⟩
end Mine
end

section
set_option maxRecDepth 100000
set_option autoImplicit false
set_option tactic.hygienic false
namespace Mine
open PySem PySem.W PySem.Calls PyProof.Rows

noncomputable def Z.isF (z : Z) : Bool := !z.S.isEmpty && z.isFor
noncomputable def hoX (z : Z) (x : X) (tk : Tk) : X := {x with state := (bif wishOf z tk == "" then x.state else "RCDATA"), foreign := (z.feed tk).isF}
noncomputable def Z.feeds (z : Z) : List Tk → Z
  | [] => z
  | tk :: r => (z.feed tk).feeds r
noncomputable def hoXs (z : Z) (x : X) : List Tk → X
  | [] => x
  | tk :: r => hoXs (z.feed tk) (hoX z x tk) r
noncomputable def TksOK : Z → List Tk → Prop
  | _, [] => True
  | z, tk :: r => tk.ok z ∧ (tk = .eof → r = []) ∧ TksOK (z.feed tk) r
noncomputable def hoF : FI := fiOf (topAt 2) []
noncomputable def hoW : Stmt := stAt hoF.body 0
noncomputable abbrev hoL (k : Nat) : Loc := [("fed", .int (.ofNat k)), ("tokenizer", gT), ("builder", gB)]
section
variable {K : Frag} (OK : PrOK K PP) {q : Pre} {z : Z} {k : Nat} {o : Str} {x : X} {n d : List AO}
include OK
theorem for_none (h : x.items = []) : ClOK K 20 528 [gB] (hp q x d n) (.bool false) (hp q x d n) := by
  have e1 : (Int.ofNat x.items.length == 1) = false := by rw [h]; rfl
  have e2 : (Int.ofNat x.items.length == 0) = true := by rw [h]; rfl
  exact run_call OK (b := 0) (j := 20) (hs := [.f, .a, .t]) (c := [(Int.ofNat x.items.length == 1) = false, (Int.ofNat x.items.length == 0) = true]) (hs' := []) (loc' := []) (by kernel_rfl) ⟨e1, e2, trivial⟩
/-- what is_foreign says -/
theorem isF_ok (W : z.S ≠ [] → WF z k) : ClOK K 20 528 [gB] (hp q (xB z o x) (gD z.U) n) (.bool z.isF) (hp q (xB z o x) (gD z.U) n) := by
  cases e : z.S with
  | nil =>
    have : z.isF = false := by unfold Z.isF; rw [e]; rfl
    rw [this]
    exact for_none OK (by show gItems z.S = []; rw [e]; rfl)
  | cons t S =>
    have W := W (by rw [e]; exact List.cons_ne_nil _ _)
    obtain ⟨nd, e', h⟩ := W.sp t (by rw [e]; exact .head _)
    have : z.isF = (nd.space == "svg") := by
      unfold Z.isF Z.isFor Z.cur Z.top
      rw [e, List.headD_cons, at_eq e']; rfl
    rw [this]
    exact for_ok OK (xB_cur e) (gSpaces_get e') h.symm
theorem ho_turn (W : WF z k) (hk : k < 700000) (tk : Tk) (T : tk.ok z) {i : Nat} (hi : x.out[i]? = some tk.gv) :
    ∃ o' m, ExOK K 230 hoF.scope (whB hoW) (hoL i) (hp q (xB z o x) (gD z.U) n) .nxt (hoL (i + 1)) (hp q (xB (z.feed tk) o' (hoX z x tk)) (gD (z.feed tk).U) (n ++ m)) := by
  obtain ⟨o', m, R⟩ := feed_ok OK (q := q) (n := n) (o := o) (x := x) W (by omega) tk T
  refine ⟨o', m, ?_⟩
  have W' : (z.feed tk).S ≠ [] → WF (z.feed tk) (k + 100) := fun h => W.feed tk T (by rintro rfl; exact h rfl)
  have hw : wishOf z tk = "" ∨ wishOf z tk = "RCDATA" := by
    cases tk with
    | start nm => show (bif nm == "t" && !z.isFor then ("RCDATA" : Str) else "") = "" ∨ (bif nm == "t" && !z.isFor then ("RCDATA" : Str) else "") = "RCDATA"; cases (nm == "t" && !z.isFor); exact .inl rfl; exact .inr rfl
    | _ => exact .inl rfl
  rcases hw with w | w
  · have e1 : fdX z tk o' x = xB (z.feed tk) o' x := by unfold fdX; rw [w]; rfl
    rw [e1] at R
    have e2 : hoX z x tk = {x with foreign := (z.feed tk).isF} := by unfold hoX; rw [w]; rfl
    rw [e2]
    have F := isF_ok OK (q := q) (n := n ++ m) (o := o') (x := x) W'
    have E : ExOK K 230 hoF.scope (whB hoW) (hoL i) (hp q (xB z o x) (gD z.U) n) .nxt (("fed", .int (.ofNat (i + 1))) :: hoL i) (hp q (xB (z.feed tk) o' {x with foreign := (z.feed tk).isF}) (gD (z.feed tk).U) (n ++ m)) :=
      run_ex OK (b := 210) (j := 20) (hs := [.v tk.gv, .c 514 .none (hp q (xB (z.feed tk) o' x) (gD (z.feed tk).U) (n ++ m)), .c 528 (.bool (z.feed tk).isF) (hp q (xB (z.feed tk) o' x) (gD (z.feed tk).U) (n ++ m))])
        (c := [x.out[i]? = some tk.gv, _, _]) (hs' := []) (by kernel_rfl) ⟨hi, ClOK.up (k := 210) R (by decide), ClOK.up (k := 210) F (by decide), trivial⟩
    have L : LocLe (hoL (i + 1)) (("fed", .int (.ofNat (i + 1))) :: hoL i) := ⟨by kernel_rfl, by kernel_rfl, by kernel_rfl, trivial⟩
    intro _ _ _ _ _ _ _ _ _ _ _ C I k
    exact ExOK.post E L C I k
  · have e1 : fdX z tk o' x = {xB (z.feed tk) o' x with wish := "RCDATA"} := by unfold fdX; rw [w]
    rw [e1] at R
    have e2 : hoX z x tk = {x with state := "RCDATA", foreign := (z.feed tk).isF} := by unfold hoX; rw [w]; rfl
    rw [e2]
    have F := isF_ok OK (q := q) (n := n ++ m) (o := o') (x := {x with state := "RCDATA"}) W'
    have E : ExOK K 230 hoF.scope (whB hoW) (hoL i) (hp q (xB z o x) (gD z.U) n) .nxt (("fed", .int (.ofNat (i + 1))) :: hoL i) (hp q (xB (z.feed tk) o' {x with state := "RCDATA", foreign := (z.feed tk).isF}) (gD (z.feed tk).U) (n ++ m)) :=
      run_ex OK (b := 210) (j := 20) (hs := [.v tk.gv, .c 514 .none (hp q {xB (z.feed tk) o' x with wish := "RCDATA"} (gD (z.feed tk).U) (n ++ m)), .c 528 (.bool (z.feed tk).isF) (hp q (xB (z.feed tk) o' {x with state := "RCDATA"}) (gD (z.feed tk).U) (n ++ m))])
        (c := [x.out[i]? = some tk.gv, _, _]) (hs' := []) (by kernel_rfl) ⟨hi, ClOK.up (k := 210) R (by decide), ClOK.up (k := 210) F (by decide), trivial⟩
    have L : LocLe (hoL (i + 1)) (("fed", .int (.ofNat (i + 1))) :: hoL i) := ⟨by kernel_rfl, by kernel_rfl, by kernel_rfl, trivial⟩
    intro _ _ _ _ _ _ _ _ _ _ _ C I k
    exact ExOK.post E L C I k
theorem ho_test (i : Nat) (b : Bool) (h : decide ((Int.ofNat i) < Int.ofNat x.out.length) = b) : TsOK K 230 hoF.scope (whT hoW) (hoL i) (hp q x d n) b (hp q x d n) := by
  subst h
  exact TsOK.up (run_ts OK (b := 0) (j := 20) (hs := []) (c := []) (hs' := []) (loc' := hoL i) (by kernel_rfl) trivial) (by decide)
end
section
variable {K : Frag} (OK : PrOK K PP) {q : Pre}
include OK
theorem ho_turns : ∀ (toks : List Tk) (z : Z) (k : Nat) (o : Str) (x : X) (n pre : List _), x.out = pre ++ toks.map Tk.gv → (toks ≠ [] → WF z k) → k + 100 * toks.length < 700000 → TksOK z toks →
    ∃ o' m, (toks = [] → m = []) ∧ WhOK K 230 hoF.scope (whT hoW) (whB hoW) (hoL pre.length) (hp q (xB z o x) (gD z.U) n) .nxt (hoL (pre.length + toks.length)) (hp q (xB (z.feeds toks) o' (hoXs z x toks)) (gD (z.feeds toks).U) (n ++ m))
  | [], z, k, o, x, n, pre, hx, _, _, _ => by
    refine ⟨o, [], fun _ => rfl, ?_⟩
    rw [List.append_nil]
    have e : decide ((Int.ofNat pre.length) < Int.ofNat (xB z o x).out.length) = false := decide_eq_false (by show ¬ ((pre.length : Int) < (x.out.length : Int)); rw [hx]; simp)
    exact .done (ho_test OK pre.length _ e)
  | tk :: r, z, k, o, x, n, pre, hx, W, hk, T => by
    have W := W (List.cons_ne_nil _ _)
    obtain ⟨T1, T2, T3⟩ := T
    have hi : x.out[pre.length]? = some tk.gv := by rw [hx, List.getElem?_append_right (Nat.le_refl _), Nat.sub_self]; rfl
    simp only [List.length_cons] at hk
    obtain ⟨o1, m1, E⟩ := ho_turn OK (q := q) (n := n) (o := o) (x := x) W (by omega) tk T1 hi
    have e : decide ((Int.ofNat pre.length) < Int.ofNat (xB z o x).out.length) = true := decide_eq_true (by show ((pre.length : Int) < (x.out.length : Int)); rw [hx]; simp; omega)
    have W' : r ≠ [] → WF (z.feed tk) (k + 100) := fun h => W.feed tk T1 fun q => h (T2 q)
    obtain ⟨o2, m2, _, R⟩ := ho_turns r (z.feed tk) (k + 100) o1 (hoX z x tk) (n ++ m1) (pre ++ [tk.gv]) (by show x.out = _; rw [hx]; simp) W' (by omega) T3
    refine ⟨o2, m1 ++ m2, fun h => (nomatch h), .nxt (ho_test OK pre.length _ e) E ?_⟩
    rw [← List.append_assoc]
    have l1 : (pre ++ [tk.gv]).length = pre.length + 1 := by simp
    rw [l1] at R
    rw [show pre.length + (tk :: r).length = pre.length + 1 + r.length by simp; omega]
    exact R
theorem ho_ok (toks : List Tk) (z : Z) (k : Nat) (o : Str) (x : X) (n : List AO) (pre : List GV) (hx : x.out = pre ++ toks.map Tk.gv) (W : toks ≠ [] → WF z k) (hk : k + 100 * toks.length < 700000) (T : TksOK z toks) :
    ∃ o' m, (toks = [] → m = []) ∧ ClOK K 250 28 [gT, gB, .int (.ofNat pre.length)] (hp q (xB z o x) (gD z.U) n) (.int (.ofNat (pre.length + toks.length))) (hp q (xB (z.feeds toks) o' (hoXs z x toks)) (gD (z.feeds toks).U) (n ++ m)) := by
  obtain ⟨o', m, hm, R⟩ := ho_turns OK (q := q) toks z k o x n pre hx W hk T
  refine ⟨o', m, hm, ?_⟩
  have S : StOK K 230 hoF.scope (.While (whT hoW) (whB hoW) [] (stPos hoW)) [("tokenizer", gT), ("builder", gB), ("fed", .int (.ofNat pre.length))] (hp q (xB z o x) (gD z.U) n) .nxt (hoL (pre.length + toks.length)) (hp q (xB (z.feeds toks) o' (hoXs z x toks)) (gD (z.feeds toks).U) (n ++ m)) :=
    StOK.pre (WhOK.stmt R) ⟨by kernel_rfl, by kernel_rfl, by kernel_rfl, trivial⟩
  exact run_call OK (b := 230) (j := 20) (hs := [.w .nxt (hoL (pre.length + toks.length)) (hp q (xB (z.feeds toks) o' (hoXs z x toks)) (gD (z.feeds toks).U) (n ++ m))]) (c := [StOK K 230 hoF.scope (.While (whT hoW) (whB hoW) [] (stPos hoW)) [("tokenizer", gT), ("builder", gB), ("fed", .int (.ofNat pre.length))] (hp q (xB z o x) (gD z.U) n) .nxt (hoL (pre.length + toks.length)) (hp q (xB (z.feeds toks) o' (hoXs z x toks)) (gD (z.feeds toks).U) (n ++ m))]) (hs' := []) (loc' := []) (by kernel_rfl) ⟨S, trivial⟩
end
end Mine
end

section
set_option maxRecDepth 100000
set_option autoImplicit false
set_option tactic.hygienic false
namespace Mine
open PySem PySem.W PySem.Calls PyProof.Rows

/-! ## the tokenizer, plain -/
inductive Sta where
  | data | tagOpen | endOpen | tagName | mark | bogus | cd | cdB | cdE | rc | rcLt | rcEnd | rcName
noncomputable def Sta.nm : Sta → Str
  | .data => "data"
  | .tagOpen => "tag open"
  | .endOpen => "end tag open"
  | .tagName => "tag name"
  | .mark => "markup declaration open"
  | .bogus => "bogus comment"
  | .cd => "CDATA section"
  | .cdB => "CDATA section bracket"
  | .cdE => "CDATA section end"
  | .rc => "RCDATA"
  | .rcLt => "RCDATA less-than sign"
  | .rcEnd => "RCDATA end tag open"
  | .rcName => "RCDATA end tag name"
/-- a draft's kind -/
inductive Kd where
  | start | fin | com
noncomputable def Kd.nm : Kd → Str
  | .start => "start"
  | .fin => "end"
  | .com => "comment"
structure TM where
  st : Sta
  dr : Option (Kd × Str × Str)
  buf : Str
  last : Str
noncomputable def isLet (c : Nat) : Bool := letC.contains c
noncomputable def tstep (t : TM) (c : Nat) : Option (TM × Bool × List Tk) := match t.st with
  | .data => bif c == 60 then some ({t with st := .tagOpen}, true, []) else some ({t with st := .data, dr := none}, true, [.char (ch c)])
  | .tagOpen => bif c == 33 then some ({t with st := .mark}, true, []) else bif c == 47 then some ({t with st := .endOpen}, true, []) else bif isLet c then some ({t with st := .tagName, dr := some (.start, "", "")}, false, []) else none
  | .endOpen => bif isLet c then some ({t with st := .tagName, dr := some (.fin, "", "")}, false, []) else none
  | .tagName => match t.dr with
    | some (.start, nm, tx) => bif c == 62 then some ({t with st := .data, dr := none, last := nm}, true, [.start nm]) else bif isLet c && nm.length.ble 1000 then some ({t with dr := some (.start, nm ++ ch (low c), tx), st := .tagName}, true, []) else none
    | some (.fin, nm, tx) => bif c == 62 then some ({t with st := .data, dr := none}, true, [.fin nm]) else bif isLet c && nm.length.ble 1000 then some ({t with dr := some (.fin, nm ++ ch (low c), tx), st := .tagName}, true, []) else none
    | _ => none
  | .mark => none
  | .bogus => match t.dr with
    | some (.com, nm, tx) => bif c == 62 then some ({t with st := .data, dr := none}, true, [.com tx]) else bif tx.length.ble 1000 then some ({t with dr := some (.com, nm, tx ++ ch c), st := .bogus}, true, []) else none
    | _ => none
  | .cd => bif c == 93 then some ({t with st := .cdB}, true, []) else some ({t with st := .cd, dr := none}, true, [.char (ch c)])
  | .cdB => bif c == 93 then some ({t with st := .cdE}, true, []) else some ({t with st := .cd, dr := none}, false, [.char "]"])
  | .cdE => bif c == 93 then some ({t with st := .cdE, dr := none}, true, [.char "]"]) else bif c == 62 then some ({t with st := .data}, true, []) else none
  | .rc => bif c == 60 then some ({t with st := .rcLt}, true, []) else some ({t with st := .rc, dr := none}, true, [.char (ch c)])
  | .rcLt => bif c == 47 then some ({t with st := .rcEnd, buf := ""}, true, []) else some ({t with st := .rc, dr := none}, false, [.char "<"])
  | .rcEnd => bif isLet c then some ({t with st := .rcName, dr := some (.fin, "", "")}, false, []) else none
  | .rcName => match t.dr with
    | some (.fin, nm, tx) => bif c == 62 then
        (bif t.last == "t" then (bif nm == "t" then some ({t with st := .data, dr := none}, true, [.fin "t"]) else
          bif nm == ch 98 && t.buf == ch 98 then some ({t with st := .rc, dr := none}, false, [.char "<", .char "/", .char (ch 98)]) else
          bif nm == ch 115 && t.buf == ch 115 then some ({t with st := .rc, dr := none}, false, [.char "<", .char "/", .char (ch 115)]) else none) else none)
      else bif isLet c && nm.length.ble 1000 && t.buf.length.ble 1000 then some ({t with dr := some (.fin, nm ++ ch (low c), tx), buf := t.buf ++ ch c, st := .rcName}, true, []) else none
    | _ => none
noncomputable def x00 : X := ⟨"", "", "", false, [], [], [], [], [], [], [], [], [], 0, "", [], [], .none, "", "", false, false, false, [], false⟩
/-- the tokenizer's fields -/
noncomputable def xT (t : TM) (pos : Nat) (er : List Nat) (fo wt dn cl : Bool) (sg out : List GV) (dg : GV) : X := {x00 with pos := .ofNat pos, state := t.st.nm, out := out, terr := er.map fun p => gErr (.ofNat p), draft := dg, buf := t.buf, last := t.last, foreign := fo, wait := wt, done := dn, signs := sg, closed := cl}
noncomputable def DrOK (rn : List AO) : Option (Kd × Str × Str) → GV → List AO → Prop
  | none, _, n => rn <+: n
  | some (k, nm, tx), dg, n => ∃ n0, rn <+: n0 ∧ n = nD n0 k.nm nm tx ∧ dg = .obj (.n n0.length)
theorem DrOK.pre {rn n : List AO} {dr : Option (Kd × Str × Str)} {dg : GV} (h : DrOK rn dr dg n) : rn <+: n := by
  cases dr with
  | none => exact h
  | some p => obtain ⟨k, nm, tx⟩ := p; obtain ⟨n0, a, rfl, _⟩ := h; exact a.trans (List.prefix_append _ _)
noncomputable def pOf (b : Bool) (p : Nat) : Nat := bif b then p + 1 else p
theorem isLet_mem {c : Nat} (h : isLet c = true) : c ∈ letC := List.contains_iff_mem.mp h
section
variable {K : Frag} (OK : PrOK K PP) {q : Pre} {rn n : List AO} {z : Z} {o : Str} {t : TM} {p a : Nat} {er : List Nat} {fo cl : Bool} {sg out : List GV} {dg : GV}
include OK
/-- what a step gives, shown of its outcome -/
noncomputable def StpO (K : Frag) (q : Pre) (rn n : List AO) (z : Z) (o : Str) (p : Nat) (er : List Nat) (fo cl : Bool) (sg out : List GV) (x : X) : Option (TM × Bool × List Tk) → Prop
  | none => True
  | some y => ∃ dg' n', DrOK rn y.1.dr dg' n' ∧ Stp K q x (gD z.U) n (xB z o (xT y.1 (pOf y.2.1 p) er fo false false cl sg (out ++ y.2.2.map Tk.gv) dg')) n'
omit OK in
theorem StpO.mk {x : X} {t' : TM} {b : Bool} {toks : List Tk} {dg' : GV} {n' : List AO} (D : DrOK rn t'.dr dg' n') (S : Stp K q x (gD z.U) n (xB z o (xT t' (pOf b p) er fo false false cl sg (out ++ toks.map Tk.gv) dg')) n') : StpO K q rn n z o p er fo cl sg out x (some (t', b, toks)) :=
  ⟨dg', n', D, S⟩
omit OK in
theorem StpO.nil {x : X} {t' : TM} {b : Bool} {dg' : GV} {n' : List AO} (D : DrOK rn t'.dr dg' n') (S : Stp K q x (gD z.U) n (xB z o (xT t' (pOf b p) er fo false false cl sg out dg')) n') : StpO K q rn n z o p er fo cl sg out x (some (t', b, [])) :=
  ⟨dg', n', D, by rw [show out ++ ([] : List Tk).map Tk.gv = out from List.append_nil _]; exact S⟩
omit OK in
theorem StpO.cond {x : X} {c : Bool} {r1 r2 : Option (TM × Bool × List Tk)} (h1 : c = true → StpO K q rn n z o p er fo cl sg out x r1) (h2 : c = false → StpO K q rn n z o p er fo cl sg out x r2) : StpO K q rn n z o p er fo cl sg out x (bif c then r1 else r2) := by
  cases c with
  | true => exact h1 rfl
  | false => exact h2 rfl
omit OK in
theorem StpO.none {x : X} : StpO K q rn n z o p er fo cl sg out x none := trivial
omit OK in
theorem bne_ne {a b : Nat} (h : (a == b) = false) : a ≠ b := fun e => by rw [e] at h; simp at h
omit OK in
theorem sgn_at {c : Nat} (e : (a == c) = true) (hs : sg[p]? = some (.str (ch a))) : sg[p]? = some (.str (ch c)) := beq_iff_eq.mp e ▸ hs
variable {dr : Option (Kd × Str × Str)} {buf last nm tx : Str} {n0 : List AO}
theorem so_data (ha : a ∈ okC) (hs : sg[p]? = some (.str (ch a))) (ho : out.length < 1000000) (D : DrOK rn dr dg n) : StpO K q rn n z o p er fo cl sg out (xB z o (xT ⟨.data, dr, buf, last⟩ p er fo false false cl sg out dg)) (tstep ⟨.data, dr, buf, last⟩ a) :=
  StpO.cond (fun e => StpO.nil D (s_data_lt OK (x := xB z o (xT ⟨.data, dr, buf, last⟩ p er fo false false cl sg out dg)) (sgn_at e hs)))
    (fun e => StpO.mk D.pre (s_data_ch OK (x := xB z o (xT ⟨.data, dr, buf, last⟩ p er fo false false cl sg out dg)) ha (bne_ne e) hs ho))
theorem so_open (hs : sg[p]? = some (.str (ch a))) (D : DrOK rn dr dg n) : StpO K q rn n z o p er fo cl sg out (xB z o (xT ⟨.tagOpen, dr, buf, last⟩ p er fo false false cl sg out dg)) (tstep ⟨.tagOpen, dr, buf, last⟩ a) :=
  StpO.cond (fun e => StpO.nil D (s_open_bang OK (x := xB z o (xT ⟨.tagOpen, dr, buf, last⟩ p er fo false false cl sg out dg)) (sgn_at e hs)))
    (fun e => StpO.cond (fun e => StpO.nil D (s_open_slash OK (x := xB z o (xT ⟨.tagOpen, dr, buf, last⟩ p er fo false false cl sg out dg)) (sgn_at e hs)))
      (fun e => StpO.cond (fun e => StpO.nil ⟨n, D.pre, rfl, rfl⟩ (s_open_let OK (x := xB z o (xT ⟨.tagOpen, dr, buf, last⟩ p er fo false false cl sg out dg)) (isLet_mem e) hs)) (fun _ => StpO.none)))
theorem so_eopen (hs : sg[p]? = some (.str (ch a))) (D : DrOK rn dr dg n) : StpO K q rn n z o p er fo cl sg out (xB z o (xT ⟨.endOpen, dr, buf, last⟩ p er fo false false cl sg out dg)) (tstep ⟨.endOpen, dr, buf, last⟩ a) :=
  StpO.cond (fun e => StpO.nil ⟨n, D.pre, rfl, rfl⟩ (s_eopen_let OK (x := xB z o (xT ⟨.endOpen, dr, buf, last⟩ p er fo false false cl sg out dg)) (isLet_mem e) hs)) (fun _ => StpO.none)
theorem so_name (hs : sg[p]? = some (.str (ch a))) (ho : out.length < 1000000) (D : DrOK rn dr dg n) : StpO K q rn n z o p er fo cl sg out (xB z o (xT ⟨.tagName, dr, buf, last⟩ p er fo false false cl sg out dg)) (tstep ⟨.tagName, dr, buf, last⟩ a) := by
  cases dr with
  | none => exact StpO.none
  | some w =>
    obtain ⟨k, nm, tx⟩ := w
    obtain ⟨n0, d1, rfl, rfl⟩ := D
    cases k with
    | com => exact StpO.none
    | start =>
      exact StpO.cond (fun e => StpO.mk ((d1.trans (List.prefix_append _ _)).trans (List.prefix_append _ _)) (s_name_gt_start OK (x := xB z o (xT ⟨.tagName, some (.start, nm, tx), buf, last⟩ p er fo false false cl sg out (.obj (.n n0.length)))) (sgn_at e hs) ho))
        (fun _ => StpO.cond (fun e => StpO.nil ⟨n0, d1, rfl, rfl⟩ (s_name_let OK (x := xB z o (xT ⟨.tagName, some (.start, nm, tx), buf, last⟩ p er fo false false cl sg out (.obj (.n n0.length)))) (isLet_mem (Bool.and_eq_true_iff.mp e).1) hs (Nat.le_of_ble_eq_true (Bool.and_eq_true_iff.mp e).2))) (fun _ => StpO.none))
    | fin =>
      exact StpO.cond (fun e => StpO.mk ((d1.trans (List.prefix_append _ _)).trans (List.prefix_append _ _)) (s_name_gt_end OK (x := xB z o (xT ⟨.tagName, some (.fin, nm, tx), buf, last⟩ p er fo false false cl sg out (.obj (.n n0.length)))) (sgn_at e hs) ho))
        (fun _ => StpO.cond (fun e => StpO.nil ⟨n0, d1, rfl, rfl⟩ (s_name_let OK (x := xB z o (xT ⟨.tagName, some (.fin, nm, tx), buf, last⟩ p er fo false false cl sg out (.obj (.n n0.length)))) (isLet_mem (Bool.and_eq_true_iff.mp e).1) hs (Nat.le_of_ble_eq_true (Bool.and_eq_true_iff.mp e).2))) (fun _ => StpO.none))
theorem so_bogus (ha : a ∈ okC) (hs : sg[p]? = some (.str (ch a))) (ho : out.length < 1000000) (D : DrOK rn dr dg n) : StpO K q rn n z o p er fo cl sg out (xB z o (xT ⟨.bogus, dr, buf, last⟩ p er fo false false cl sg out dg)) (tstep ⟨.bogus, dr, buf, last⟩ a) := by
  cases dr with
  | none => exact StpO.none
  | some w =>
    obtain ⟨k, nm, tx⟩ := w
    obtain ⟨n0, d1, rfl, rfl⟩ := D
    cases k with
    | com =>
      exact StpO.cond (fun e => StpO.mk (d1.trans (List.prefix_append _ _)) (s_bog_gt OK (x := xB z o (xT ⟨.bogus, some (.com, nm, tx), buf, last⟩ p er fo false false cl sg out (.obj (.n n0.length)))) (sgn_at e hs) ho))
        (fun e1 => StpO.cond (fun e => StpO.nil ⟨n0, d1, rfl, rfl⟩ (s_bog_ch OK (x := xB z o (xT ⟨.bogus, some (.com, nm, tx), buf, last⟩ p er fo false false cl sg out (.obj (.n n0.length)))) ha (bne_ne e1) hs (Nat.le_of_ble_eq_true e))) (fun _ => StpO.none))
    | _ => exact StpO.none
theorem so_cd (hs : sg[p]? = some (.str (ch a))) (ho : out.length < 1000000) (D : DrOK rn dr dg n) : StpO K q rn n z o p er fo cl sg out (xB z o (xT ⟨.cd, dr, buf, last⟩ p er fo false false cl sg out dg)) (tstep ⟨.cd, dr, buf, last⟩ a) :=
  StpO.cond (fun e => StpO.nil D (s_cd_br OK (x := xB z o (xT ⟨.cd, dr, buf, last⟩ p er fo false false cl sg out dg)) (sgn_at e hs)))
    (fun e => StpO.mk D.pre (s_cd_ch OK (x := xB z o (xT ⟨.cd, dr, buf, last⟩ p er fo false false cl sg out dg)) (bne_ne e) hs ho))
theorem so_cdB (hs : sg[p]? = some (.str (ch a))) (ho : out.length < 1000000) (D : DrOK rn dr dg n) : StpO K q rn n z o p er fo cl sg out (xB z o (xT ⟨.cdB, dr, buf, last⟩ p er fo false false cl sg out dg)) (tstep ⟨.cdB, dr, buf, last⟩ a) :=
  StpO.cond (fun e => StpO.nil D (s_cb_br OK (x := xB z o (xT ⟨.cdB, dr, buf, last⟩ p er fo false false cl sg out dg)) (sgn_at e hs)))
    (fun e => StpO.mk D.pre (s_cb_ch OK (x := xB z o (xT ⟨.cdB, dr, buf, last⟩ p er fo false false cl sg out dg)) (bne_ne e) hs ho))
theorem so_cdE (hs : sg[p]? = some (.str (ch a))) (ho : out.length < 1000000) (D : DrOK rn dr dg n) : StpO K q rn n z o p er fo cl sg out (xB z o (xT ⟨.cdE, dr, buf, last⟩ p er fo false false cl sg out dg)) (tstep ⟨.cdE, dr, buf, last⟩ a) :=
  StpO.cond (fun e => StpO.mk D.pre (s_ce_br OK (x := xB z o (xT ⟨.cdE, dr, buf, last⟩ p er fo false false cl sg out dg)) (sgn_at e hs) ho))
    (fun _ => StpO.cond (fun e => StpO.nil D (s_ce_gt OK (x := xB z o (xT ⟨.cdE, dr, buf, last⟩ p er fo false false cl sg out dg)) (sgn_at e hs))) (fun _ => StpO.none))
theorem so_rc (ha : a ∈ okC) (hs : sg[p]? = some (.str (ch a))) (ho : out.length < 1000000) (D : DrOK rn dr dg n) : StpO K q rn n z o p er fo cl sg out (xB z o (xT ⟨.rc, dr, buf, last⟩ p er fo false false cl sg out dg)) (tstep ⟨.rc, dr, buf, last⟩ a) :=
  StpO.cond (fun e => StpO.nil D (s_rc_lt OK (x := xB z o (xT ⟨.rc, dr, buf, last⟩ p er fo false false cl sg out dg)) (sgn_at e hs)))
    (fun e => StpO.mk D.pre (s_rc_ch OK (x := xB z o (xT ⟨.rc, dr, buf, last⟩ p er fo false false cl sg out dg)) ha (bne_ne e) hs ho))
theorem so_rcLt (hs : sg[p]? = some (.str (ch a))) (ho : out.length < 1000000) (D : DrOK rn dr dg n) : StpO K q rn n z o p er fo cl sg out (xB z o (xT ⟨.rcLt, dr, buf, last⟩ p er fo false false cl sg out dg)) (tstep ⟨.rcLt, dr, buf, last⟩ a) :=
  StpO.cond (fun e => StpO.nil D (s_rl_slash OK (x := xB z o (xT ⟨.rcLt, dr, buf, last⟩ p er fo false false cl sg out dg)) (sgn_at e hs)))
    (fun e => StpO.mk (dg' := dg) (n' := n) D.pre (by
      by_cases h2 : a = 33
      · subst h2; exact s_rl_bang OK (x := xB z o (xT ⟨.rcLt, dr, buf, last⟩ p er fo false false cl sg out dg)) hs ho
      · exact s_rl_ch OK (x := xB z o (xT ⟨.rcLt, dr, buf, last⟩ p er fo false false cl sg out dg)) (bne_ne e) h2 hs ho))
theorem so_rcEnd (hs : sg[p]? = some (.str (ch a))) (D : DrOK rn dr dg n) : StpO K q rn n z o p er fo cl sg out (xB z o (xT ⟨.rcEnd, dr, buf, last⟩ p er fo false false cl sg out dg)) (tstep ⟨.rcEnd, dr, buf, last⟩ a) :=
  StpO.cond (fun e => StpO.nil ⟨n, D.pre, rfl, rfl⟩ (s_re_let OK (x := xB z o (xT ⟨.rcEnd, dr, buf, last⟩ p er fo false false cl sg out dg)) (isLet_mem e) hs)) (fun _ => StpO.none)
theorem so_rcNo {c : Nat} (hc : c = 98 ∨ c = 115) (e : (nm == ch c && buf == ch c) = true) (hs : sg[p]? = some (.str ">")) (ho : out.length < 999990) (d1 : rn <+: n0) :
    StpO K q rn (nD n0 "end" nm tx) z o p er fo cl sg out (xB z o (xT ⟨.rcName, some (.fin, nm, tx), buf, "t"⟩ p er fo false false cl sg out (.obj (.n n0.length)))) (some (⟨.rc, none, buf, "t"⟩, false, [.char "<", .char "/", .char (ch c)])) := by
  obtain ⟨e1, e2⟩ := Bool.and_eq_true_iff.mp e
  obtain rfl : nm = ch c := beq_iff_eq.mp e1
  obtain rfl : buf = ch c := beq_iff_eq.mp e2
  exact StpO.mk (d1.trans (List.prefix_append _ _)) (s_rn_no OK (c := c) (x := xB z o (xT ⟨.rcName, some (.fin, ch c, tx), ch c, "t"⟩ p er fo false false cl sg out (.obj (.n n0.length)))) hc hs ho)
theorem so_rcApt (hs : sg[p]? = some (.str ">")) (ho : out.length < 999990) (d1 : rn <+: n0) :
    StpO K q rn (nD n0 "end" nm tx) z o p er fo cl sg out (xB z o (xT ⟨.rcName, some (.fin, nm, tx), buf, last⟩ p er fo false false cl sg out (.obj (.n n0.length)))) (tstep ⟨.rcName, some (.fin, nm, tx), buf, last⟩ 62) :=
  StpO.cond (fun e => by
    obtain rfl : last = "t" := beq_iff_eq.mp e
    exact StpO.cond (fun e => by
        obtain rfl : nm = "t" := beq_iff_eq.mp e
        exact StpO.mk ((d1.trans (List.prefix_append _ _)).trans (List.prefix_append _ _)) (s_rn_apt OK (x := xB z o (xT ⟨.rcName, some (.fin, "t", tx), buf, "t"⟩ p er fo false false cl sg out (.obj (.n n0.length)))) hs (Nat.lt_trans ho (by decide))))
      (fun _ => StpO.cond (fun e => so_rcNo OK (.inl rfl) e hs ho d1) (fun _ => StpO.cond (fun e => so_rcNo OK (.inr rfl) e hs ho d1) (fun _ => StpO.none)))) (fun _ => StpO.none)
theorem so_rcName (hs : sg[p]? = some (.str (ch a))) (ho : out.length < 999990) (D : DrOK rn dr dg n) : StpO K q rn n z o p er fo cl sg out (xB z o (xT ⟨.rcName, dr, buf, last⟩ p er fo false false cl sg out dg)) (tstep ⟨.rcName, dr, buf, last⟩ a) := by
  cases dr with
  | none => exact StpO.none
  | some w =>
    obtain ⟨k, nm, tx⟩ := w
    obtain ⟨n0, d1, rfl, rfl⟩ := D
    cases k with
    | fin =>
      by_cases h1 : a = 62
      · subst h1
        exact so_rcApt OK hs ho d1
      · unfold tstep
        simp only [beq_eq_false_iff_ne.mpr h1, cond_false]
        exact StpO.cond (fun e => StpO.nil ⟨n0, d1, rfl, rfl⟩ (s_rn_let OK (x := xB z o (xT ⟨.rcName, some (.fin, nm, tx), buf, last⟩ p er fo false false cl sg out (.obj (.n n0.length)))) (isLet_mem (Bool.and_eq_true_iff.mp (Bool.and_eq_true_iff.mp e).1).1) hs
          (Nat.le_of_ble_eq_true (Bool.and_eq_true_iff.mp (Bool.and_eq_true_iff.mp e).1).2) (Nat.le_of_ble_eq_true (Bool.and_eq_true_iff.mp e).2))) (fun _ => StpO.none)
    | _ => exact StpO.none
theorem step_all (ha : a ∈ okC) (hs : sg[p]? = some (.str (ch a))) (ho : out.length < 900000) (D : DrOK rn t.dr dg n) : StpO K q rn n z o p er fo cl sg out (xB z o (xT t p er fo false false cl sg out dg)) (tstep t a) := by
  obtain ⟨st, dr, buf, last⟩ := t
  have h1 : out.length < 1000000 := Nat.lt_trans ho (by decide)
  have h2 : out.length < 999990 := Nat.lt_trans ho (by decide)
  cases st with
  | data => exact so_data OK ha hs h1 D
  | tagOpen => exact so_open OK hs D
  | endOpen => exact so_eopen OK hs D
  | tagName => exact so_name OK hs h1 D
  | mark => exact StpO.none
  | bogus => exact so_bogus OK ha hs h1 D
  | cd => exact so_cd OK hs h1 D
  | cdB => exact so_cdB OK hs h1 D
  | cdE => exact so_cdE OK hs h1 D
  | rc => exact so_rc OK ha hs h1 D
  | rcLt => exact so_rcLt OK hs h1 D
  | rcEnd => exact so_rcEnd OK hs D
  | rcName => exact so_rcName OK hs h2 D
theorem step_ok (ha : a ∈ okC) (hs : sg[p]? = some (.str (ch a))) {t' : TM} {b : Bool} {toks : List Tk} (h : tstep t a = some (t', b, toks)) (ho : out.length < 900000) (D : DrOK rn t.dr dg n) :
    ∃ dg' n', DrOK rn t'.dr dg' n' ∧ Stp K q (xB z o (xT t p er fo false false cl sg out dg)) (gD z.U) n (xB z o (xT t' (pOf b p) er fo false false cl sg (out ++ toks.map Tk.gv) dg')) n' := by
  have := step_all (q := q) (z := z) (o := o) (er := er) (fo := fo) (cl := cl) OK ha hs ho D
  rw [h] at this
  exact this
end
end Mine
end

section
set_option maxRecDepth 100000
set_option autoImplicit false
set_option tactic.hygienic false
namespace Mine
open PySem PySem.W PySem.Calls PyProof.Rows

noncomputable def wst (z : Z) (st : Sta) : List Tk → Sta
  | [] => st
  | tk :: r => wst (z.feed tk) (bif wishOf z tk == "" then st else .rc) r
theorem hoXs_xT : ∀ (toks : List Tk) (z : Z) (t : TM) (p : Nat) (er : List Nat) (wt dn cl : Bool) (sg out : List GV) (dg : GV),
    hoXs z (xT t p er z.isF wt dn cl sg out dg) toks = xT {t with st := wst z t.st toks} p er (z.feeds toks).isF wt dn cl sg out dg
  | [], z, t, p, er, wt, dn, cl, sg, out, dg => rfl
  | tk :: r, z, t, p, er, wt, dn, cl, sg, out, dg => by
    have e : hoX z (xT t p er z.isF wt dn cl sg out dg) tk = xT {t with st := bif wishOf z tk == "" then t.st else .rc} p er (z.feed tk).isF wt dn cl sg out dg := by
      unfold hoX
      cases wishOf z tk == "" <;> rfl
    show hoXs (z.feed tk) (hoX z _ tk) r = _
    rw [e, hoXs_xT r]
    rfl
theorem WF.feeds : ∀ (toks : List Tk) {z : Z} {k : Nat}, WF z k → TksOK z toks → (∀ tk ∈ toks, tk ≠ .eof) → WF (z.feeds toks) (k + 100 * toks.length)
  | [], _, _, W, _, _ => W
  | tk :: r, z, k, W, T, h => by
    have := WF.feeds r (W.feed tk T.1 (h _ (.head _))) T.2.2 fun x hx => h x (.tail _ hx)
    exact this.up (by simp; omega)
structure Cf where
  z : Z
  t : TM
  p : Nat
  er : List Nat
inductive Step (tx : List Nat) : Cf → Cf → Prop
  | one {z : Z} {t t' : TM} {p a : Nat} {er : List Nat} {b : Bool} {toks : List Tk} : tx[p]? = some a → a ∈ okC → tstep t a = some (t', b, toks) → TksOK z toks → (∀ tk ∈ toks, tk ≠ .eof) → toks.length ≤ 3 →
      Step tx ⟨z, t, p, er⟩ ⟨z.feeds toks, {t' with st := wst z t'.st toks}, pOf b p, er⟩
  | cd {z : Z} {t : TM} {p : Nat} {er : List Nat} : t.st = .mark → (∀ (j a : Nat), cdW[j]? = some a → tx[p + j]? = some a) → z.isF = true → Step tx ⟨z, t, p, er⟩ ⟨z, {t with st := .cd}, p + 7, er⟩
  | com {z : Z} {t : TM} {p : Nat} {er : List Nat} : t.st = .mark → (∀ (j a : Nat), cdW[j]? = some a → tx[p + j]? = some a) → z.isF = false → er.length ≤ 1000 → Step tx ⟨z, t, p, er⟩ ⟨z, {t with st := .bogus, dr := some (.com, "", "[CDATA[")}, p + 7, er ++ [p + 6]⟩
inductive Path (tx : List Nat) : Nat → Cf → Cf → Prop
  | nil {c : Cf} : Path tx 0 c c
  | cons {N : Nat} {c c' c'' : Cf} : Step tx c c' → Path tx N c' c'' → Path tx (N + 1) c c''
theorem Path.trans {tx : List Nat} {N M : Nat} {a b c : Cf} (h : Path tx N a b) (k : Path tx M b c) : Path tx (N + M) a c := by
  induction h with
  | nil => rw [Nat.zero_add]; exact k
  | cons s _ ih => rw [Nat.add_right_comm]; exact .cons s (ih k)
noncomputable def DrN : Option (TM × Bool × List Tk) → Prop
  | none => True
  | some y => y.2.2 ≠ [] → y.1.dr = none
theorem DrN.cond {c : Bool} {r1 r2 : Option (TM × Bool × List Tk)} (h1 : DrN r1) (h2 : DrN r2) : DrN (bif c then r1 else r2) := by
  cases c
  · exact h2
  · exact h1
theorem DrN.nil {t' : TM} {b : Bool} : DrN (some (t', b, [])) := fun h => absurd rfl h
theorem DrN.drop {t' : TM} {b : Bool} {toks : List Tk} (h : t'.dr = none) : DrN (some (t', b, toks)) := fun _ => h
theorem DrN.none : DrN none := trivial
theorem tstep_drN (t : TM) (a : Nat) : DrN (tstep t a) := by
  obtain ⟨st, dr, buf, last⟩ := t
  cases st with
  | data => exact .cond .nil (.drop rfl)
  | tagOpen => exact .cond .nil (.cond .nil (.cond .nil .none))
  | endOpen => exact .cond .nil .none
  | mark => exact .none
  | cd => exact .cond .nil (.drop rfl)
  | cdB => exact .cond .nil (.drop rfl)
  | cdE => exact .cond (.drop rfl) (.cond .nil .none)
  | rc => exact .cond .nil (.drop rfl)
  | rcLt => exact .cond .nil (.drop rfl)
  | rcEnd => exact .cond .nil .none
  | tagName => cases dr with
    | none => exact .none
    | some w =>
      obtain ⟨k, nm, tx⟩ := w
      cases k with
      | com => exact .none
      | start => exact .cond (.drop rfl) (.cond .nil .none)
      | fin => exact .cond (.drop rfl) (.cond .nil .none)
  | bogus => cases dr with
    | none => exact .none
    | some w =>
      obtain ⟨k, nm, tx⟩ := w
      cases k with
      | com => exact .cond (.drop rfl) (.cond .nil .none)
      | _ => exact .none
  | rcName => cases dr with
    | none => exact .none
    | some w =>
      obtain ⟨k, nm, tx⟩ := w
      cases k with
      | fin => exact .cond (.cond (.cond (.drop rfl) (.cond (.drop rfl) (.cond (.drop rfl) .none))) .none) (.cond .nil .none)
      | _ => exact .none
theorem tstep_dr {t t' : TM} {a : Nat} {b : Bool} {toks : List Tk} (h : tstep t a = some (t', b, toks)) (hn : toks ≠ []) : t'.dr = none := by
  have := tstep_drN t a
  rw [h] at this
  exact this hn
noncomputable def sgOf (l : List Nat) : List GV := l.map fun a => .str (ch a)
noncomputable def CfH (q : Pre) (rn : List AO) (sg : List GV) (cl wt : Bool) (c : Cf) (out : List GV) (ah : AH) : Prop :=
  ∃ o dg n, DrOK rn c.t.dr dg n ∧ ah = hp q (xB c.z o (xT c.t c.p c.er c.z.isF wt false cl sg out dg)) (gD c.z.U) n
noncomputable def drF : FI := fiOf (topAt 3) []
noncomputable def drW : Stmt := stAt drF.body 2
noncomputable def stK : List (Str × GV) := [("data", .fn 806), ("tag open", .fn 785), ("end tag open", .fn 792), ("tag name", .fn 799), ("markup declaration open", .fn 743), ("bogus comment", .fn 750), ("RCDATA", .fn 841), ("RCDATA less-than sign", .fn 848),
    ("RCDATA end tag open", .fn 855), ("RCDATA end tag name", .fn 862), ("CDATA section", .fn 757), ("CDATA section bracket", .fn 764), ("CDATA section end", .fn 771)]
theorem stK_ok (s : Sta) : (!(stK.lookup s.nm).isSome) = false := by cases s <;> decide
section
variable {K : Frag} (OK : PrOK K PP) {q : Pre} {rn n d : List AO} {z : Z} {o : Str} {t : TM} {p a : Nat} {er : List Nat} {fo cl : Bool} {sg out : List GV} {dg : GV} {tx : List Nat}
include OK
theorem ready_gen {x : X} (h : (!(stK.lookup x.state).isSome) = false) : ClOK K 20 1067 [gT] (hp q {x with pos := .ofNat p, done := false, wait := false, closed := false} d n) (.bool (decide (Int.ofNat p < Int.ofNat x.signs.length))) (hp q {x with pos := .ofNat p, done := false, wait := false, closed := false} d n) :=
  run_call OK (b := 0) (j := 20) (hs := [.a, .a, .f, .a]) (c := [(!(stK.lookup x.state).isSome) = false]) (hs' := []) (loc' := []) (by kernel_rfl) ⟨h, trivial⟩
theorem ready_genc {x : X} (h : (!(stK.lookup x.state).isSome) = false) : ClOK K 20 1067 [gT] (hp q {x with pos := .ofNat p, done := false, wait := false, closed := true} d n) (.bool true) (hp q {x with pos := .ofNat p, done := false, wait := false, closed := true} d n) :=
  run_call OK (b := 0) (j := 20) (hs := [.a, .a, .f, .a]) (c := [(!(stK.lookup x.state).isSome) = false]) (hs' := []) (loc' := []) (by kernel_rfl) ⟨h, trivial⟩
theorem ready_open : ClOK K 20 1067 [gT] (hp q (xB z o (xT t p er fo false false false sg out dg)) d n) (.bool (decide (Int.ofNat p < Int.ofNat sg.length))) (hp q (xB z o (xT t p er fo false false false sg out dg)) d n) :=
  ready_gen OK (x := xB z o (xT t p er fo false false false sg out dg)) (stK_ok _)
theorem ready_closed : ClOK K 20 1067 [gT] (hp q (xB z o (xT t p er fo false false true sg out dg)) d n) (.bool true) (hp q (xB z o (xT t p er fo false false true sg out dg)) d n) :=
  ready_genc OK (x := xB z o (xT t p er fo false false true sg out dg)) (stK_ok _)
theorem ready_wait : ClOK K 20 1067 [gT] (hp q (xB z o (xT t p er fo true false cl sg out dg)) d n) (.bool false) (hp q (xB z o (xT t p er fo true false cl sg out dg)) d n) :=
  run_call OK (b := 0) (j := 20) (hs := []) (c := []) (hs' := []) (loc' := []) (by kernel_rfl) trivial
theorem ready_done : ClOK K 20 1067 [gT] (hp q (xB z o (xT t p er fo false true cl sg out dg)) d n) (.bool false) (hp q (xB z o (xT t p er fo false true cl sg out dg)) d n) :=
  run_call OK (b := 0) (j := 20) (hs := []) (c := []) (hs' := []) (loc' := []) (by kernel_rfl) trivial
theorem dr_test {x : X} {r : Bool} (i : Nat) (h : ClOK K 20 1067 [gT] (hp q x d n) (.bool r) (hp q x d n)) : TsOK K 280 drF.scope (whT drW) (hoL i) (hp q x d n) r (hp q x d n) :=
  TsOK.up (run_ts OK (b := 20) (j := 20) (hs := [.c 1067 (.bool r) (hp q x d n)]) (c := [_]) (hs' := []) (loc' := hoL i) (by kernel_rfl) ⟨h, trivial⟩) (by decide)
theorem dr_body {x : X} {ah1 ah2 : AH} (i i' : Nat) (h1 : ClOK K 60 1060 [gT] (hp q x d n) .none ah1) (h2 : ClOK K 250 28 [gT, gB, .int (.ofNat i)] ah1 (.int (.ofNat i')) ah2) : ExOK K 280 drF.scope (whB drW) (hoL i) (hp q x d n) .nxt (hoL i') ah2 := by
  have E : ExOK K 270 drF.scope (whB drW) (hoL i) (hp q x d n) .nxt (("fed", .int (.ofNat i')) :: hoL i) ah2 :=
    run_ex OK (b := 250) (j := 20) (hs := [.c 1060 .none ah1, .c 28 (.int (.ofNat i')) ah2]) (c := [_, _]) (hs' := []) (by kernel_rfl) ⟨ClOK.up (k := 250) h1 (by decide), h2, trivial⟩
  have L : LocLe (hoL i') (("fed", .int (.ofNat i')) :: hoL i) := ⟨by kernel_rfl, by kernel_rfl, by kernel_rfl, trivial⟩
  intro _ _ _ _ _ _ _ _ _ _ _ C I k
  exact ExOK.up (ExOK.post E L) (by decide) C I k
/-- a turn that reads one sign -/
theorem turn_one {k : Nat} {c : Cf} {t' : TM} {b : Bool} {toks : List Tk} {ah : AH} (H : CfH q rn sg cl false c out ah) (ha : a ∈ okC) (hs : sg[c.p]? = some (.str (ch a))) (h : tstep c.t a = some (t', b, toks)) (T : TksOK c.z toks) (W : WF c.z k) (hk : k + 100 * toks.length < 700000) (ho : out.length < 900000) :
    ∃ ah', CfH q rn sg cl false ⟨c.z.feeds toks, {t' with st := wst c.z t'.st toks}, pOf b c.p, c.er⟩ (out ++ toks.map Tk.gv) ah' ∧ ExOK K 280 drF.scope (whB drW) (hoL out.length) ah .nxt (hoL (out ++ toks.map Tk.gv).length) ah' := by
  obtain ⟨o, dg, n, D, rfl⟩ := H
  obtain ⟨dg', n', D', S⟩ := step_ok OK (q := q) (z := c.z) (o := o) (er := c.er) (fo := c.z.isF) (cl := cl) ha hs h ho D
  obtain ⟨o', m, hm, R⟩ := ho_ok OK (q := q) toks c.z k o (xT t' (pOf b c.p) c.er c.z.isF false false cl sg (out ++ toks.map Tk.gv) dg') n' out rfl (fun _ => W) hk T
  rw [hoXs_xT] at R
  refine ⟨_, ⟨o', dg', n' ++ m, ?_, rfl⟩, ?_⟩
  · show DrOK rn t'.dr dg' (n' ++ m)
    cases toks with
    | nil => rw [hm rfl, List.append_nil]; exact D'
    | cons tk r =>
      rw [tstep_dr h (List.cons_ne_nil _ _)] at D' ⊢
      exact D'.trans (List.prefix_append _ _)
  · rw [show (out ++ toks.map Tk.gv).length = out.length + toks.length by simp]
    intro _ _ _ _ _ _ _ _ _ _ _ C I k
    exact dr_body OK out.length (out.length + toks.length) S R C I k
end
end Mine
end

section
set_option maxRecDepth 100000
set_option autoImplicit false
set_option tactic.hygienic false
namespace Mine
open PySem PySem.W PySem.Calls PyProof.Rows

theorem sg_get {tx : List Nat} {m p a : Nat} (h : tx[p]? = some a) (hm : p < m) : (sgOf (tx.take m))[p]? = some (.str (ch a)) := by
  unfold sgOf
  rw [List.getElem?_map, List.getElem?_take, if_pos hm, h]; rfl
theorem sg_len {tx : List Nat} {m : Nat} (h : m ≤ tx.length) : (sgOf (tx.take m)).length = m := by
  unfold sgOf
  rw [List.length_map, List.length_take]; omega
section
variable {K : Frag} (OK : PrOK K PP) {q : Pre} {rn : List AO} {cl : Bool} {sg out : List GV} {tx : List Nat}
include OK
theorem turn_seven {k : Nat} {z : Z} {t t' : TM} {p : Nat} {er er' : List Nat} {ah : AH} (H : CfH q rn sg cl false ⟨z, t, p, er⟩ out ah) (hs : t.st = .mark) (hw : ∀ j a, cdW[j]? = some a → sg[p + j]? = some (.str (ch a)))
    (he : er.length ≤ 1000) (ht : (z.isF = true ∧ t' = {t with st := .cd} ∧ er' = er) ∨ (z.isF = false ∧ t' = {t with st := .bogus, dr := some (.com, "", "[CDATA[")} ∧ er' = er ++ [p + 6])) (W : WF z k) (hk : k < 600000) :
    ∃ ah', CfH q rn sg cl false ⟨z, t', p + 7, er'⟩ out ah' ∧ ExOK K 280 drF.scope (whB drW) (hoL out.length) ah .nxt (hoL out.length) ah' := by
  obtain ⟨o, dg, n, D, rfl⟩ := H
  obtain ⟨st, dr, buf, last⟩ := t
  have hs : st = .mark := hs
  subst hs
  rcases ht with ⟨hf, rfl, rfl⟩ | ⟨hf, rfl, rfl⟩
  · have S := s_mk_for OK (q := q) (x := xB z o (xT ⟨.mark, dr, buf, last⟩ p er' true false false cl sg out dg)) (d := gD z.U) (n := n) (a := p) hw
    have S' : Stp K q (xB z o (xT ⟨.mark, dr, buf, last⟩ p er' z.isF false false cl sg out dg)) (gD z.U) n (xB z o (xT ⟨.cd, dr, buf, last⟩ (p + 7) er' z.isF false false cl sg out dg)) n := by rw [hf]; exact S
    obtain ⟨o', m, hm, R⟩ := ho_ok OK (q := q) [] z k o (xT ⟨.cd, dr, buf, last⟩ (p + 7) er' z.isF false false cl sg out dg) n out (List.append_nil _).symm (fun _ => W) (by simp; omega) trivial
    rw [hm rfl, List.append_nil] at R
    refine ⟨_, ⟨o', dg, n, D, rfl⟩, ?_⟩
    intro _ _ _ _ _ _ _ _ _ _ _ C I k
    exact dr_body OK out.length out.length S' R C I k
  · have S := s_mk_html OK (q := q) (x := xB z o (xT ⟨.mark, dr, buf, last⟩ p er false false false cl sg out dg)) (d := gD z.U) (n := n) (a := p) hw (by show (er.map _).length < _; rw [List.length_map]; omega)
    have S' : Stp K q (xB z o (xT ⟨.mark, dr, buf, last⟩ p er z.isF false false cl sg out dg)) (gD z.U) n (xB z o (xT ⟨.bogus, some (.com, "", "[CDATA["), buf, last⟩ (p + 7) (er ++ [p + 6]) z.isF false false cl sg out (.obj (.n n.length)))) (nD n "comment" "" "[CDATA[") := by
      rw [hf]
      have e : (er ++ [p + 6]).map (fun p => gErr (.ofNat p)) = er.map (fun p => gErr (.ofNat p)) ++ [gErr (.ofNat (p + 6))] := by rw [List.map_append]; rfl
      unfold xT
      rw [e]
      exact S
    obtain ⟨o', m, hm, R⟩ := ho_ok OK (q := q) [] z k o (xT ⟨.bogus, some (.com, "", "[CDATA["), buf, last⟩ (p + 7) (er ++ [p + 6]) z.isF false false cl sg out (.obj (.n n.length))) (nD n "comment" "" "[CDATA[") out (List.append_nil _).symm (fun _ => W) (by simp; omega) trivial
    rw [hm rfl, List.append_nil] at R
    refine ⟨_, ⟨o', _, _, ⟨n, D.pre, rfl, rfl⟩, rfl⟩, ?_⟩
    intro _ _ _ _ _ _ _ _ _ _ _ C I k
    exact dr_body OK out.length out.length S' R C I k
theorem turn_wait {k m : Nat} {z : Z} {t : TM} {p : Nat} {er : List Nat} {ah : AH} (H : CfH q rn sg false false ⟨z, t, p, er⟩ out ah) (hs : t.st = .mark) (hm : m = 1 ∨ m = 2 ∨ m = 3 ∨ m = 4 ∨ m = 5 ∨ m = 6) (hw : ∀ j a, (cdW.take m)[j]? = some a → sg[p + j]? = some (.str (ch a))) (hl : sg.length = p + m)
    (W : WF z k) (hk : k < 600000) :
    ∃ ah', CfH q rn sg false true ⟨z, t, p, er⟩ out ah' ∧ ExOK K 280 drF.scope (whB drW) (hoL out.length) ah .nxt (hoL out.length) ah' := by
  obtain ⟨o, dg, n, D, rfl⟩ := H
  obtain ⟨st, dr, buf, last⟩ := t
  have hs : st = .mark := hs
  subst hs
  have S := s_mk_wait OK (q := q) (x := xB z o (xT ⟨.mark, dr, buf, last⟩ p er z.isF false false false sg out dg)) (d := gD z.U) (n := n) (a := p) hm hw hl
  obtain ⟨o', m', hm', R⟩ := ho_ok OK (q := q) [] z k o (xT ⟨.mark, dr, buf, last⟩ p er z.isF true false false sg out dg) n out (List.append_nil _).symm (fun _ => W) (by simp; omega) trivial
  rw [hm' rfl, List.append_nil] at R
  refine ⟨_, ⟨o', dg, n, D, rfl⟩, ?_⟩
  intro _ _ _ _ _ _ _ _ _ _ _ C I k
  exact dr_body OK out.length out.length S R C I k
/-- drive is at rest -/
theorem rest_path {m : Nat} (hm : m ≤ tx.length) {c : Cf} {out : List GV} {ah : AH} (H : CfH q rn (sgOf (tx.take m)) false false c out ah) (hp : ¬ c.p < m) : WhOK K 280 drF.scope (whT drW) (whB drW) (hoL out.length) ah .nxt (hoL out.length) ah := by
  obtain ⟨o, dg, n, D, rfl⟩ := H
  refine .done (dr_test OK _ ?_)
  have R := ready_open OK (q := q) (z := c.z) (o := o) (t := c.t) (p := c.p) (er := c.er) (fo := c.z.isF) (sg := sgOf (tx.take m)) (out := out) (dg := dg) (d := gD c.z.U) (n := n)
  rw [sg_len hm, decide_eq_false (by intro h; exact hp (Int.ofNat_lt.mp h))] at R
  exact R
theorem go_path {m : Nat} (hm : m ≤ tx.length) {c : Cf} {out : List GV} {ah : AH} (H : CfH q rn (sgOf (tx.take m)) false false c out ah) (hp : c.p < m) (i : Nat) : TsOK K 280 drF.scope (whT drW) (hoL i) ah true ah := by
  obtain ⟨o, dg, n, D, rfl⟩ := H
  have R := ready_open OK (q := q) (z := c.z) (o := o) (t := c.t) (p := c.p) (er := c.er) (fo := c.z.isF) (sg := sgOf (tx.take m)) (out := out) (dg := dg) (d := gD c.z.U) (n := n)
  have e : decide (Int.ofNat c.p < Int.ofNat m) = true := decide_eq_true (Int.ofNat_lt.mpr hp)
  rw [sg_len hm, e] at R
  intro _ _ _ _ _ _ _ _ _ _ _ C I k
  exact dr_test OK i R C I k
theorem wait_path {c : Cf} {out : List GV} {ah : AH} (H : CfH q rn sg false true c out ah) : WhOK K 280 drF.scope (whT drW) (whB drW) (hoL out.length) ah .nxt (hoL out.length) ah := by
  obtain ⟨o, dg, n, D, rfl⟩ := H
  exact .done (dr_test OK _ (ready_wait OK))
/-- what the turns of drive lead to -/
inductive DrvR (K : Frag) (q : Pre) (rn : List AO) (tx : List Nat) (m : Nat) (cN : Cf) (N k L e i : Nat) (ah : AH) : Prop
  | mk (c' : Cf) (N' D : Nat) (out' : List GV) (ah' : AH) (wt : Bool) (P : Path tx N' c' cN) (hN : N' + D = N) (H : CfH q rn (sgOf (tx.take m)) false wt c' out' ah') (W : WF c'.z (k + 300 * D)) (ho : out'.length ≤ L + 3 * D) (he : c'.er.length ≤ e + D) (x : m ≤ c'.p ∨ m < tx.length)
      (R : WhOK K 280 drF.scope (whT drW) (whB drW) (hoL i) ah .nxt (hoL out'.length) ah') : DrvR K q rn tx m cN N k L e i ah
omit OK in
theorem DrvR.turn {m : Nat} {cN : Cf} {N k L e i L1 e1 i1 : Nat} {ah ah1 : AH} (hT : TsOK K 280 drF.scope (whT drW) (hoL i) ah true ah) (E : ExOK K 280 drF.scope (whB drW) (hoL i) ah .nxt (hoL i1) ah1) (h : DrvR K q rn tx m cN N (k + 300) L1 e1 i1 ah1) (hL : L1 ≤ L + 3) (he : e1 ≤ e + 1) :
    DrvR K q rn tx m cN (N + 1) k L e i ah := by
  obtain ⟨c', N', D, out', ah', wt, P, hN, H, W, ho, he', x, R⟩ := h
  have a : k + 300 + 300 * D ≤ k + 300 * (D + 1) := by clear hN ho he'; omega
  have b : L1 + 3 * D ≤ L + 3 * (D + 1) := by clear hN ho he'; omega
  have c : e1 + D ≤ e + (D + 1) := by clear hN ho he'; omega
  exact ⟨c', N', D + 1, out', ah', wt, P, congrArg (· + 1) hN, H, W.up a, Nat.le_trans ho b, Nat.le_trans he' c, x, .nxt hT E R⟩
omit OK in
theorem DrvR.here {m : Nat} {cN c : Cf} {N k : Nat} {out : List GV} {ah : AH} (P : Path tx N c cN) (H : CfH q rn (sgOf (tx.take m)) false false c out ah) (W : WF c.z k) (x : m ≤ c.p) (R : WhOK K 280 drF.scope (whT drW) (whB drW) (hoL out.length) ah .nxt (hoL out.length) ah) : DrvR K q rn tx m cN N k out.length c.er.length out.length ah :=
  ⟨c, N, 0, out, _, false, P, rfl, H, W, Nat.le_refl _, Nat.le_refl _, .inl x, R⟩
omit OK in
theorem cdW_lt {j a : Nat} (h : cdW[j]? = some a) : j < 7 := get_lt h
omit OK in
theorem cd_sg {m p : Nat} (h7 : p + 7 ≤ m) (hw : ∀ (j a : Nat), cdW[j]? = some a → tx[p + j]? = some a) (j a : Nat) (h : cdW[j]? = some a) : (sgOf (tx.take m))[p + j]? = some (.str (ch a)) :=
  sg_get (hw j a h) (Nat.lt_of_lt_of_le (Nat.add_lt_add_left (cdW_lt h) p) h7)
omit OK in
theorem cd_sgw {m p : Nat} (hw : ∀ (j a : Nat), cdW[j]? = some a → tx[p + j]? = some a) (j a : Nat) (h : (cdW.take (m - p))[j]? = some a) : (sgOf (tx.take m))[p + j]? = some (.str (ch a)) := by
  have hj : j < m - p := by have := get_lt h; rw [List.length_take] at this; exact Nat.lt_of_lt_of_le this (Nat.min_le_left _ _)
  rw [List.getElem?_take, if_pos hj] at h
  exact sg_get (hw j a h) (Nat.add_lt_of_lt_sub' hj)
omit OK in
theorem mp_six {m p : Nat} (hp : p < m) (h7 : ¬ p + 7 ≤ m) : m - p = 1 ∨ m - p = 2 ∨ m - p = 3 ∨ m - p = 4 ∨ m - p = 5 ∨ m - p = 6 := by omega
theorem drv_seven {m N k : Nat} (hm : m ≤ tx.length) {cN : Cf} {z : Z} {t t' : TM} {p : Nat} {er er' : List Nat} {out : List GV} {ah : AH} (s : Step tx ⟨z, t, p, er⟩ ⟨z, t', p + 7, er'⟩) (P : Path tx N ⟨z, t', p + 7, er'⟩ cN)
    (ih : ∀ {ah1 : AH}, CfH q rn (sgOf (tx.take m)) false false ⟨z, t', p + 7, er'⟩ out ah1 → DrvR K q rn tx m cN N (k + 300) out.length er'.length out.length ah1) (H : CfH q rn (sgOf (tx.take m)) false false ⟨z, t, p, er⟩ out ah) (W : WF z k) (hk : k < 600000) (hel : er.length ≤ 1000) (hp : p < m)
    (hs : t.st = .mark) (hw : ∀ (j a : Nat), cdW[j]? = some a → tx[p + j]? = some a) (hee : er'.length ≤ er.length + 1) (ht : (z.isF = true ∧ t' = {t with st := .cd} ∧ er' = er) ∨ (z.isF = false ∧ t' = {t with st := .bogus, dr := some (.com, "", "[CDATA[")} ∧ er' = er ++ [p + 6])) :
    DrvR K q rn tx m cN (N + 1) k out.length er.length out.length ah := by
  by_cases h7 : p + 7 ≤ m
  · obtain ⟨ah', H1, E⟩ := turn_seven OK H hs (cd_sg h7 hw) hel ht W hk
    exact .turn (go_path OK hm H hp _) E (ih H1) (Nat.le_add_right _ _) hee
  · have hl : p + 6 < tx.length := get_lt (hw 6 91 rfl)
    have hm6 : m < tx.length := Nat.lt_of_le_of_lt (Nat.le_of_lt_succ (Nat.lt_of_not_le h7)) hl
    obtain ⟨ah', H1, E⟩ := turn_wait OK H hs (m := m - p) (mp_six hp h7) (cd_sgw hw) (by rw [sg_len hm]; exact (Nat.add_sub_of_le (Nat.le_of_lt hp)).symm) W hk
    exact ⟨_, N + 1, 0, out, ah', true, .cons s P, rfl, H1, W, Nat.le_refl _, Nat.le_refl _, .inr hm6, .nxt (go_path OK hm H hp _) E (wait_path OK H1)⟩
theorem drv_go {m : Nat} (hm : m ≤ tx.length) {cN : Cf} (hN : cN.p = tx.length) : ∀ {N : Nat} {c : Cf}, Path tx N c cN → ∀ {k : Nat} {out : List GV} {ah : AH}, CfH q rn (sgOf (tx.take m)) false false c out ah → WF c.z k → k + 300 * N < 500000 → out.length + 3 * N < 800000 → c.er.length + N ≤ 1000 →
    DrvR K q rn tx m cN N k out.length c.er.length out.length ah := by
  intro N c P
  induction P with
  | @nil c =>
    intro k out ah H W hk ho he
    have hx : m ≤ c.p := by rw [hN]; exact hm
    exact .here .nil H W hx (rest_path OK hm H (Nat.not_lt_of_le hx))
  | @cons N c c1 c2 s P ih =>
    intro k out ah H W hk ho he
    have hk1 : k + 300 + 300 * N < 500000 := by clear ih ho he; omega
    have he1 : c.er.length + 1 + N ≤ 1000 := by clear ih ho hk hk1; omega
    have hk0 : k < 600000 := by clear ih ho he he1; omega
    have he0 : c.er.length ≤ 1000 := by clear ih ho hk hk1; omega
    by_cases hp : c.p < m
    · cases s with
      | @one z t t' p a er b toks h1 h2 h3 h4 h5 h6 =>
        have ho1 : (out ++ toks.map Tk.gv).length ≤ out.length + 3 := by rw [List.length_append, List.length_map]; exact Nat.add_le_add_left h6 _
        have ho2 : (out ++ toks.map Tk.gv).length + 3 * N < 800000 := by clear ih; omega
        obtain ⟨ah', H1, E⟩ := turn_one OK H h2 (sg_get h1 hp) h3 h4 W (by clear ih; omega) (by clear ih; omega)
        exact .turn (go_path OK hm H hp _) E (ih hN H1 ((WF.feeds toks W h4 h5).up (by clear ih; omega)) hk1 ho2 (Nat.le_trans (Nat.add_le_add_right (Nat.le_succ _) _) he1)) ho1 (Nat.le_succ _)
      | @cd z t p er hs hw hf =>
        exact drv_seven OK hm (.cd hs hw hf) P (fun H1 => ih hN H1 (W.up (Nat.le_add_right _ _)) hk1 (Nat.lt_of_le_of_lt (Nat.add_le_add_left (Nat.mul_le_mul_left _ (Nat.le_succ _)) _) ho) (Nat.le_trans (Nat.add_le_add_right (Nat.le_succ _) _) he1)) H W hk0 he0 hp hs hw (Nat.le_succ _) (.inl ⟨hf, rfl, rfl⟩)
      | @com z t p er hs hw hf hl =>
        have e : (er ++ [p + 6]).length = er.length + 1 := List.length_append
        exact drv_seven OK hm (.com hs hw hf hl) P (fun H1 => by
          have := ih hN H1 (W.up (Nat.le_add_right _ _)) hk1 (Nat.lt_of_le_of_lt (Nat.add_le_add_left (Nat.mul_le_mul_left _ (Nat.le_succ _)) _) ho) (by show (er ++ [p + 6]).length + N ≤ 1000; rw [e]; exact he1)
          exact this) H W hk0 he0 hp hs hw (Nat.le_of_eq e) (.inr ⟨hf, rfl, rfl⟩)
    · exact .here (.cons s P) H W (Nat.le_of_not_lt hp) (rest_path OK hm H hp)
/-- the turns of drive, as far as the signs go -/
theorem drive_path {m : Nat} (hm : m ≤ tx.length) {cN : Cf} (hN : cN.p = tx.length) {N : Nat} {c : Cf} (P : Path tx N c cN) {k : Nat} {out : List GV} {ah : AH} (H : CfH q rn (sgOf (tx.take m)) false false c out ah) (W : WF c.z k) (hk : k + 300 * N < 500000) (ho : out.length + 3 * N < 800000) (he : c.er.length + N ≤ 1000) :
    ∃ c' N' out' ah' wt, Path tx N' c' cN ∧ N' ≤ N ∧ CfH q rn (sgOf (tx.take m)) false wt c' out' ah' ∧ WF c'.z (k + 300 * (N - N')) ∧ out'.length ≤ out.length + 3 * (N - N') ∧ c'.er.length ≤ c.er.length + (N - N') ∧ (m ≤ c'.p ∨ m < tx.length) ∧
      WhOK K 280 drF.scope (whT drW) (whB drW) (hoL out.length) ah .nxt (hoL out'.length) ah' := by
  obtain ⟨c', N', D, out', ah', wt, P, hN, H, W, ho, he', x, R⟩ := drv_go OK hm hN P H W hk ho he
  obtain rfl : D = N - N' := (Nat.sub_eq_of_eq_add' hN.symm).symm
  exact ⟨c', N', out', ah', wt, P, hN ▸ Nat.le_add_right _ _, H, W, ho, he', x, R⟩
end
end Mine
end

section
set_option maxRecDepth 100000
set_option autoImplicit false
set_option tactic.hygienic false
namespace Mine
open PySem PySem.W PySem.Calls PyProof.Rows
/-- the text's end -/
noncomputable def EndH (q : Pre) (rn : List AO) (z : Z) (er : List Nat) (ah : AH) : Prop := ∃ o t p fo sg out dg n, rn <+: n ∧ ah = hp q (xB z o (xT t p er fo false true true sg out dg)) (gD z.U) n
section
variable {K : Frag} (OK : PrOK K PP) {q : Pre} {rn n d : List AO} {cl : Bool} {sg out : List GV} {tx : List Nat} {x : X}
include OK
theorem drive_call {z : Z} {k : Nat} {o : Str} {ah' : AH} {k' : Nat} (W : z.S ≠ [] → WF z k) (hf : x.foreign = z.isF)
    (S : StOK K 280 drF.scope (.While (whT drW) (whB drW) [] (stPos drW)) (hoL x.out.length) (hp q (xB z o x) (gD z.U) n) .nxt (hoL k') ah') : ClOK K 300 35 [gT, gB] (hp q (xB z o x) (gD z.U) n) .none ah' := by
  have S' : StOK K 280 drF.scope (.While (whT drW) (whB drW) [] (stPos drW)) [("fed", .int (.ofNat x.out.length)), ("tokenizer", gT), ("builder", gB)] (hp q {xB z o x with foreign := z.isF} (gD z.U) n) .nxt (hoL k') ah' := by
    rw [← hf]; exact S
  exact run_call OK (b := 280) (j := 20) (hs := [.c 528 (.bool z.isF) (hp q (xB z o x) (gD z.U) n), .w .nxt (hoL k') ah'])
    (c := [ClOK K 280 528 [gB] (hp q (xB z o x) (gD z.U) n) (.bool z.isF) (hp q (xB z o x) (gD z.U) n), StOK K 280 drF.scope (.While (whT drW) (whB drW) [] (stPos drW)) [("fed", .int (.ofNat x.out.length)), ("tokenizer", gT), ("builder", gB)] (hp q {xB z o x with foreign := z.isF} (gD z.U) n) .nxt (hoL k') ah'])
    (hs' := []) (loc' := []) (by kernel_rfl) ⟨ClOK.up (k := 280) (isF_ok OK W) (by decide), S', trivial⟩
/-- drive, the stream open -/
theorem drive_ok {m : Nat} (hm : m ≤ tx.length) {cN : Cf} (hN : cN.p = tx.length) {N : Nat} {c : Cf} (P : Path tx N c cN) {k : Nat} {out : List GV} {ah : AH} (H : CfH q rn (sgOf (tx.take m)) false false c out ah) (W : WF c.z k) (hk : k + 300 * N < 500000) (ho : out.length + 3 * N < 800000) (he : c.er.length + N ≤ 1000) :
    ∃ c' N' out' ah' wt, Path tx N' c' cN ∧ N' ≤ N ∧ CfH q rn (sgOf (tx.take m)) false wt c' out' ah' ∧ WF c'.z (k + 300 * (N - N')) ∧ out'.length ≤ out.length + 3 * (N - N') ∧ c'.er.length ≤ c.er.length + (N - N') ∧ (m ≤ c'.p ∨ m < tx.length) ∧
      ClOK K 300 35 [gT, gB] ah .none ah' := by
  obtain ⟨c', N', out', ah', wt, a1, a2, a3, a4, a5, a6, a7, a8⟩ := drive_path OK hm hN P H W hk ho he
  refine ⟨c', N', out', ah', wt, a1, a2, a3, a4, a5, a6, a7, ?_⟩
  obtain ⟨o, dg, n, D, rfl⟩ := H
  exact drive_call OK (k' := out'.length) (fun _ => W) rfl (WhOK.stmt a8)
/-- drive, the stream closed and read -/
theorem drive_end {z : Z} {t : TM} {p k : Nat} {er : List Nat} {out : List GV} {ah : AH} (H : CfH q rn sg true false ⟨z, t, p, er⟩ out ah) (hs : t.st = .data ∨ t.st = .rc) (hp' : sg.length ≤ p) (W : WF z k) (hk : k < 500000) (ho : out.length < 800000) :
    ∃ ah', EndH q rn (z.feed .eof) er ah' ∧ ClOK K 300 35 [gT, gB] ah .none ah' := by
  obtain ⟨o, dg, n, D, rfl⟩ := H
  obtain ⟨st, dr, buf, last⟩ := t
  have S : Stp K q (xB z o (xT ⟨st, dr, buf, last⟩ p er z.isF false false true sg out dg)) (gD z.U) n (xB z o (xT ⟨st, dr, buf, last⟩ (p + 1) er z.isF false true true sg (out ++ [Tk.eof.gv]) dg)) n := by
    have hs : st = .data ∨ st = .rc := hs
    rcases hs with rfl | rfl
    · exact s_data_eof OK (x := xB z o (xT ⟨.data, dr, buf, last⟩ p er z.isF false false true sg out dg)) hp' (by show out.length < _; omega)
    · exact s_rc_eof OK (x := xB z o (xT ⟨.rc, dr, buf, last⟩ p er z.isF false false true sg out dg)) hp' (by show out.length < _; omega)
  obtain ⟨o', m, _, R⟩ := ho_ok OK (q := q) [.eof] z k o (xT ⟨st, dr, buf, last⟩ (p + 1) er z.isF false true true sg (out ++ [Tk.eof.gv]) dg) n out rfl (fun _ => W) (by simp; omega) ⟨trivial, fun _ => rfl, trivial⟩
  rw [hoXs_xT] at R
  refine ⟨hp q (xB (z.feed .eof) o' (xT ⟨wst z st [.eof], dr, buf, last⟩ (p + 1) er (z.feed .eof).isF false true true sg (out ++ [Tk.eof.gv]) dg)) (gD (z.feed .eof).U) (n ++ m), ⟨o', _, p + 1, _, sg, out ++ [Tk.eof.gv], dg, n ++ m, D.pre.trans (List.prefix_append _ _), rfl⟩, ?_⟩
  refine drive_call OK (k' := out.length + 1) (fun _ => W) rfl (WhOK.stmt (.nxt (dr_test OK _ (ready_closed OK)) (dr_body OK out.length (out.length + 1) S R) (.done (dr_test OK _ (ready_done OK)))))
/-! the stream is fed -/
noncomputable def sfF : FI := fiOf (methAt 79 1) []
noncomputable def sfW : Stmt := stAt sfF.body 1
theorem sf_turn {c : Nat} (hc : c ∈ okC) (hl : x.signs.length < 1000000) : ExOK K 40 sfF.scope (whB sfW) [("c", .str (ch c)), ("self", .obj (.c 27))] (hp q x d n) .nxt [("self", .obj (.c 27))] (hp q {x with signs := x.signs ++ [.str (ch c)]} d n) := by
  have L : ∀ u : GV, LocLe [("self", .obj (.c 27))] [("code", u), ("c", .str (ch c)), ("self", .obj (.c 27))] := fun u => ⟨by kernel_rfl, trivial⟩
  have E : ExOK K 40 sfF.scope (whB sfW) [("c", .str (ch c)), ("self", .obj (.c 27))] (hp q x d n) .nxt [("code", .str ""), ("c", .str (ch c)), ("self", .obj (.c 27))] (hp q {x with signs := x.signs ++ [.str (ch c)]} d n) := by
    simp only [okC, List.mem_cons, List.not_mem_nil, or_false] at hc
    rcases hc with rfl | rfl | rfl | rfl | rfl | rfl | rfl | rfl | rfl | rfl | rfl | rfl | rfl | rfl | rfl | rfl | rfl <;>
    exact run_ex OK (b := 0) (j := 40) (hs := []) (c := [x.signs.length < 1000000]) (hs' := []) (by kernel_rfl) ⟨hl, trivial⟩
  intro _ _ _ _ _ _ _ _ _ _ _ C I k
  exact ExOK.post E (L _) C I k
theorem sf_turns : ∀ (l : List Nat) {x : X}, (∀ c ∈ l, c ∈ okC) → x.signs.length + l.length < 1000000 →
    TnOK K 40 sfF.scope "c" (whB sfW) (fun _ => True) (chars l) [("self", .obj (.c 27))] (hp q x d n) .nxt [("self", .obj (.c 27))] (hp q {x with signs := x.signs ++ sgOf l} d n)
  | [], x, _, _ => by
    have e : ({x with signs := x.signs ++ sgOf []} : X) = x := by show ({x with signs := x.signs ++ []} : X) = x; rw [List.append_nil]
    rw [e]
    exact .nil trivial
  | c :: l, x, h, hl => by
    have E := sf_turns l (x := {x with signs := x.signs ++ [.str (ch c)]}) (fun a ha => h a (.tail _ ha)) (by simp at hl ⊢; omega)
    have e : ({x with signs := (x.signs ++ [.str (ch c)]) ++ sgOf l} : X) = {x with signs := x.signs ++ sgOf (c :: l)} := by rw [List.append_assoc]; rfl
    have E' : TnOK K 40 sfF.scope "c" (whB sfW) (fun _ => True) (chars l) [("self", .obj (.c 27))] (hp q {x with signs := x.signs ++ [.str (ch c)]} d n) .nxt [("self", .obj (.c 27))] (hp q {x with signs := x.signs ++ sgOf (c :: l)} d n) := by
      rw [← e]; exact E
    exact .nxt trivial (sf_turn OK (h c (.head _)) (by simp at hl; omega)) E'
end
end Mine
end

section
set_option maxRecDepth 100000
set_option autoImplicit false
set_option tactic.hygienic false
namespace Mine
open PySem PySem.W PySem.Calls PyProof.Rows
noncomputable def LocS (a b : Loc) : Prop := ∀ (x : Str) (g : GV), a.lookup x = some g → b.lookup x = some g
theorem LocLe.s {a b : Loc} (h : LocLe a b) : LocS a b := fun _ _ e => h.look e
theorem LocS.cons {a b : Loc} (h : LocS a b) (x : Str) (g : GV) : LocS ((x, g) :: a) ((x, g) :: b) := fun y u e => by
  rw [List.lookup_cons] at e ⊢
  cases q : y == x with
  | true => rw [q] at e; exact e
  | false => rw [q] at e; exact h y u e
section
variable {K : Frag} {n : Nat} {sc : Scope}
theorem ExOK.preS {ss : List Stmt} {loc loc' loc0 : Loc} {ah ah' : AH} {fl : Fl} (h : ExOK K n sc ss loc0 ah fl loc' ah') (w : LocS loc0 loc) : ExOK K n sc ss loc ah fl loc' ah' :=
  fun C I k => h C ⟨I.fr, I.nw, I.hr, fun x g e => I.lc x g (w x g e)⟩ k
theorem TnOK.pre {x : Str} {body : List Stmt} {chk : AH → Prop} {gs : List GV} {loc loc' loc0 : Loc} {ah ah' : AH} {fl : Fl} (h : TnOK K n sc x body chk gs loc ah fl loc' ah') (w : LocS loc loc0) : ∃ loc2, LocS loc' loc2 ∧ TnOK K n sc x body chk gs loc0 ah fl loc2 ah' := by
  cases h with
  | nil a => exact ⟨loc0, w, .nil a⟩
  | nxt a b c => exact ⟨_, fun _ _ e => e, .nxt a (ExOK.preS b (w.cons _ _)) c⟩
  | brk a b => exact ⟨_, fun _ _ e => e, .brk a (ExOK.preS b (w.cons _ _))⟩
  | ret a b => exact ⟨_, fun _ _ e => e, .ret a (ExOK.preS b (w.cons _ _))⟩
end
noncomputable def forI : Stmt → Expr
  | .For _ i _ _ _ => i
  | _ => .Constant .none 0 default
noncomputable def forP : Stmt → Pos
  | .For (.Name _ p) _ _ _ _ => p
  | _ => default
noncomputable def txt (l : List Nat) : Str := ⟨l.toArray⟩
section
variable {K : Frag} (OK : PrOK K PP) {q : Pre} {rn n d : List AO} {cl : Bool} {sg out : List GV} {tx : List Nat} {x : X}
include OK
theorem sf_ok {l : List Nat} (h : ∀ c ∈ l, c ∈ okC) (hl : x.signs.length + l.length < 1000000) : ClOK K 60 897 [.obj (.c 27), .str (txt l)] (hp q {x with closed := false} d n) .none (hp q {x with signs := x.signs ++ sgOf l, closed := false} d n) := by
  have ev : EvOK K 40 sfF.scope (forI sfW) [("self", .obj (.c 27)), ("text", .str (txt l))] (hp q {x with closed := false} d n) (.str (txt l)) (hp q {x with closed := false} d n) := by
    intro _ _ _ _ _ _ _ _ _ _ _ C I k
    exact EvOK.up (run_ev OK (b := 0) (j := 10) (hs := []) (c := []) (hs' := []) (loc' := [("self", .obj (.c 27)), ("text", .str (txt l))]) (by kernel_rfl) trivial) (by decide) C I k
  have T : TnOK K 40 sfF.scope "c" (whB sfW) (fun _ => True) (chars (txt l).cps.toList) [("self", .obj (.c 27))] (hp q {x with closed := false} d n) .nxt [("self", .obj (.c 27))] (hp q {x with signs := x.signs ++ sgOf l, closed := false} d n) := sf_turns OK l (x := {x with closed := false}) h hl
  obtain ⟨loc2, _, T'⟩ := T.pre (loc0 := [("self", .obj (.c 27)), ("text", .str (txt l))]) (LocLe.s ⟨by kernel_rfl, trivial⟩)
  have S : StOK K 40 sfF.scope (.For (.Name "c" (forP sfW)) (forI sfW) (whB sfW) [] (stPos sfW)) [("self", .obj (.c 27)), ("text", .str (txt l))] (hp q {x with closed := false} d n) .nxt loc2 (hp q {x with signs := x.signs ++ sgOf l, closed := false} d n) := by
    intro _ _ _ _ _ _ _ _ _ _ _ C I k
    exact for_str (by decide +kernel) (by decide +kernel) ev T' C I k
  exact run_call OK (b := 40) (j := 20) (hs := [.w .nxt loc2 (hp q {x with signs := x.signs ++ sgOf l, closed := false} d n)]) (c := [StOK K 40 sfF.scope (.For (.Name "c" (forP sfW)) (forI sfW) (whB sfW) [] (stPos sfW)) [("self", .obj (.c 27)), ("text", .str (txt l))] (hp q {x with closed := false} d n) .nxt loc2 (hp q {x with signs := x.signs ++ sgOf l, closed := false} d n)])
    (hs' := []) (loc' := []) (by kernel_rfl) ⟨S, trivial⟩
theorem tf_ok {l : List Nat} (h : ∀ c ∈ l, c ∈ okC) (hl : x.signs.length + l.length < 1000000) : ClOK K 80 940 [gT, .str (txt l)] (hp q {x with closed := false} d n) .none (hp q {x with signs := x.signs ++ sgOf l, closed := false, wait := false} d n) :=
  run_call OK (b := 60) (j := 20) (hs := [.c 897 .none (hp q {x with signs := x.signs ++ sgOf l, closed := false} d n)]) (c := [_]) (hs' := []) (loc' := []) (by kernel_rfl) ⟨sf_ok OK (q := q) (d := d) (n := n) (x := x) h hl, trivial⟩
theorem te_ok : ClOK K 20 947 [gT] (hp q x d n) .none (hp q {x with closed := true, wait := false} d n) :=
  run_call OK (b := 0) (j := 20) (hs := []) (c := []) (hs' := []) (loc' := []) (by kernel_rfl) trivial
/-- a piece fed -/
theorem feed_piece {l : List Nat} (h : ∀ c ∈ l, c ∈ okC) {wt : Bool} {c : Cf} {ah : AH} (H : CfH q rn sg false wt c out ah) (hl : sg.length + l.length < 1000000) : ∃ ah', CfH q rn (sg ++ sgOf l) false false c out ah' ∧ ClOK K 80 940 [gT, .str (txt l)] ah .none ah' := by
  obtain ⟨o, dg, n, D, rfl⟩ := H
  exact ⟨_, ⟨o, dg, n, D, rfl⟩, tf_ok OK (x := xB c.z o (xT c.t c.p c.er c.z.isF wt false false sg out dg)) h hl⟩
theorem end_piece {wt : Bool} {c : Cf} {ah : AH} (H : CfH q rn sg false wt c out ah) : ∃ ah', CfH q rn sg true false c out ah' ∧ ClOK K 20 947 [gT] ah .none ah' := by
  obtain ⟨o, dg, n, D, rfl⟩ := H
  exact ⟨_, ⟨o, dg, n, D, rfl⟩, te_ok OK (x := xB c.z o (xT c.t c.p c.er c.z.isF wt false false sg out dg))⟩
end
end Mine
end

section
set_option maxRecDepth 100000
set_option autoImplicit false
namespace Mine
open PySem PySem.W PySem.Calls PyProof.Rows

/-! ## the parts, plain -/
noncomputable def wst' (fo em : Bool) (st : Sta) : List Tk → Option Sta
  | [] => some st
  | .char _ :: r => wst' fo true st r
  | [.start nm] => bif em then none else some (bif nm == "t" && !fo then .rc else st)
  | [.fin _] => some st
  | [.com _] => bif em then none else some st
  | _ => none
noncomputable def tkChk (raw em : Bool) : List Tk → Bool
  | [] => true
  | .char s :: r => s.length.ble 100 && tkChk raw true r
  | [.start nm] => !raw && !em && (nm == "b" || nm == "s" || nm == "t")
  | [.fin _] => true
  | [.com s] => !raw && !em && s.length.ble 100
  | _ => false
theorem wst_eq {fo : Bool} : ∀ {toks : List Tk} {em : Bool} {z : Z} {st s : Sta}, (em = false → z.isFor = fo) → wst' fo em st toks = some s → wst z st toks = s
  | [], _, _, _, _, _, h => by cases h; rfl
  | .char c :: r, em, z, st, s, h, e => wst_eq (toks := r) (em := true) (z := z.feed (.char c)) (fun h => nomatch h) e
  | [.start nm], em, z, st, s, h, e => by
    cases em with
    | true => cases e
    | false =>
      cases e
      show (bif wishOf z (.start nm) == "" then st else .rc) = _
      have hw : wishOf z (.start nm) = (bif nm == "t" && !z.isFor then ("RCDATA" : Str) else "") := rfl
      rw [hw, h rfl]
      cases (nm == "t" && !fo) <;> rfl
  | [.fin _], _, _, _, _, _, e => by cases e; rfl
  | [.com _], em, _, _, _, _, e => by
    cases em with
    | true => cases e
    | false => cases e; rfl
  | [.eof], _, _, _, _, _, e => by cases e
  | .start _ :: _ :: _, _, _, _, _, _, e => by cases e
  | .fin _ :: _ :: _, _, _, _, _, _, e => by cases e
  | .com _ :: _ :: _, _, _, _, _, _, e => by cases e
  | .eof :: _ :: _, _, _, _, _, _, e => by cases e
theorem tkChk_ok {raw : Bool} : ∀ {toks : List Tk} {em : Bool} {z : Z}, (em = false → z.raw = raw) → tkChk raw em toks = true → TksOK z toks ∧ ∀ tk ∈ toks, tk ≠ .eof
  | [], _, _, _, _ => ⟨trivial, (fun _ h => nomatch h)⟩
  | .char c :: r, em, z, h, e => by
    obtain ⟨e1, e2⟩ := Bool.and_eq_true_iff.mp e
    obtain ⟨a, b⟩ := tkChk_ok (toks := r) (em := true) (z := z.feed (.char c)) (fun h => nomatch h) e2
    exact ⟨⟨Nat.le_of_ble_eq_true e1, (fun h => nomatch h), a⟩, fun tk ht => by
      rcases List.mem_cons.mp ht with rfl | ht
      · exact fun h => nomatch h
      · exact b tk ht⟩
  | [.start nm], em, z, h, e => by
    have e : (!raw && !em && (nm == "b" || nm == "s" || nm == "t")) = true := e
    simp only [Bool.and_eq_true, Bool.not_eq_true', Bool.or_eq_true, beq_iff_eq] at e
    obtain ⟨⟨rfl, rfl⟩, hn⟩ := e
    refine ⟨⟨⟨h rfl, ?_⟩, (fun h => nomatch h), trivial⟩, fun tk ht => by rw [List.mem_singleton.mp ht]; exact fun h => nomatch h⟩
    rcases hn with (hn | hn) | hn
    · exact .inl hn
    · exact .inr (.inl hn)
    · exact .inr (.inr hn)
  | [.fin _], _, _, _, _ => ⟨⟨trivial, (fun h => nomatch h), trivial⟩, fun tk ht => by rw [List.mem_singleton.mp ht]; exact fun h => nomatch h⟩
  | [.com s], em, z, h, e => by
    have e : (!raw && !em && s.length.ble 100) = true := e
    simp only [Bool.and_eq_true, Bool.not_eq_true'] at e
    obtain ⟨⟨rfl, rfl⟩, hn⟩ := e
    exact ⟨⟨⟨h rfl, Nat.le_of_ble_eq_true hn⟩, (fun h => nomatch h), trivial⟩, fun tk ht => by rw [List.mem_singleton.mp ht]; exact fun h => nomatch h⟩
  | [.eof], _, _, _, e => by cases e
  | .start _ :: _ :: _, _, _, _, e => by cases e
  | .fin _ :: _ :: _, _, _, _, e => by cases e
  | .com _ :: _ :: _, _, _, _, e => by cases e
  | .eof :: _ :: _, _, _, _, e => by cases e
/-- the tokenizer over a row of signs -/
noncomputable def oneRun (raw fo : Bool) : Nat → Bool → TM → List Nat → Option (Nat × TM × List Tk)
  | 0, _, _, _ => none
  | _ + 1, _, t, [] => some (0, t, [])
  | f + 1, em, t, a :: l => match tstep t a with
    | none => none
    | some (t', b, toks) => match wst' fo em t'.st toks with
      | none => none
      | some s => bif tkChk raw em toks && toks.length.ble 3 then
          (match oneRun raw fo f (em || !toks.isEmpty) {t' with st := s} (bif b then l else a :: l) with
          | none => none
          | some (N, t2, toks2) => some (N + 1, t2, toks ++ toks2)) else none
theorem Z.feeds_app : ∀ (a b : List Tk) (z : Z), z.feeds (a ++ b) = (z.feeds a).feeds b
  | [], _, _ => rfl
  | tk :: a, b, z => Z.feeds_app a b (z.feed tk)
theorem oneRun_path {raw fo : Bool} {tx post : List Nat} : ∀ {f : Nat} {em : Bool} {t t' : TM} {l : List Nat} {N : Nat} {toks : List Tk}, oneRun raw fo f em t l = some (N, t', toks) → ∀ (z : Z) (p : Nat) (er pre : List Nat), tx = pre ++ l ++ post → pre.length = p → (∀ a ∈ l, a ∈ okC) →
    (em = false → z.raw = raw ∧ z.isFor = fo) → Path tx N ⟨z, t, p, er⟩ ⟨z.feeds toks, t', p + l.length, er⟩
  | 0, _, _, _, _, _, _, h => by cases h
  | f + 1, em, t, t', [], N, toks, h => by
    intro z p er pre _ _ _ _
    unfold oneRun at h
    cases h
    exact .nil
  | f + 1, em, t, t', a :: l, N, toks, h => by
    intro z p er pre htx hp hok hz
    unfold oneRun at h
    split at h
    · cases h
    · rename_i t1 b tk1 h1
      split at h
      · cases h
      · rename_i s hs
        cases hc : (tkChk raw em tk1 && tk1.length.ble 3) with
        | false => rw [hc] at h; cases h
        | true =>
          rw [hc, cond_true] at h
          obtain ⟨c1, c2⟩ := Bool.and_eq_true_iff.mp hc
          split at h
          · cases h
          · rename_i N2 t2 toks2 h2
            cases h
            obtain ⟨T1, T2⟩ := tkChk_ok (z := z) (fun e => (hz e).1) c1
            have W := wst_eq (z := z) (fun e => (hz e).2) hs
            have ha : tx[p]? = some a := by
              rw [htx, List.append_assoc, List.getElem?_append_right (by omega), ← hp, Nat.sub_self]; rfl
            have S : Step tx ⟨z, t, p, er⟩ ⟨z.feeds tk1, {t1 with st := wst z t1.st tk1}, pOf b p, er⟩ := .one ha (hok a (.head _)) h1 T1 T2 (Nat.le_of_ble_eq_true c2)
            rw [W] at S
            have hz' : (em || !tk1.isEmpty) = false → (z.feeds tk1).raw = raw ∧ (z.feeds tk1).isFor = fo := fun e => by
              obtain ⟨e1, e2⟩ := Bool.or_eq_false_iff.mp e
              cases tk1 with
              | nil => exact hz e1
              | cons x r => cases e2
            rw [Z.feeds_app]
            refine .cons S ?_
            cases b with
            | true =>
              have htx' : tx = (pre ++ [a]) ++ l ++ post := by rw [htx]; simp
              have R := oneRun_path (l := l) h2 (z.feeds tk1) (p + 1) er (pre ++ [a]) htx' (by simp [hp]) (fun x hx => hok x (.tail _ hx)) hz'
              rw [show p + (a :: l).length = p + 1 + l.length by simp; omega]
              exact R
            | false => exact oneRun_path (l := a :: l) h2 (z.feeds tk1) p er pre htx hp hok hz'

/-! signs put one by one, and at once -/
theorem str_assoc (a b c : Str) : a ++ b ++ c = a ++ (b ++ c) := by
  show Str.mk (a.cps ++ b.cps ++ c.cps) = Str.mk (a.cps ++ (b.cps ++ c.cps))
  rw [Array.append_assoc]
theorem modify_snoc {α : Type} (f : α → α) : ∀ (A : List α) (x : α), (A ++ [x]).modify A.length f = A ++ [f x]
  | [], _ => rfl
  | a :: A, x => by simp [modify_snoc f A x]
theorem put_put {U : List Nd} {p : Nat} {nd : Nd} (e : U[p]? = some nd) (hk : ∀ j ∈ nd.kids, j < U.length) (s1 s2 : Str) : put (put U p s1) p s2 = put U p (s1 ++ s2) := by
  have hp := get_lt e
  have new : put U p s1 = addNd U p (txNd p s1) → put U p (s1 ++ s2) = addNd U p (txNd p (s1 ++ s2)) → put (put U p s1) p s2 = put U p (s1 ++ s2) := by
    intro h1 h2
    rw [h1, h2]
    have a1 : (addNd U p (txNd p s1))[p]? = some {nd with kids := nd.kids ++ [U.length]} := by rw [add_get_lt hp, e]; simp
    rw [put_text a1 rfl (add_get_eq (nd := txNd p s1)) rfl]
    unfold addNd
    have l1 : (U.modify p fun q => {q with kids := q.kids ++ [U.length]}).length = U.length := by simp
    have := modify_snoc (fun q : Nd => {q with text := q.text ++ s2}) (U.modify p fun q => {q with kids := q.kids ++ [U.length]}) (txNd p s1)
    rw [l1] at this
    exact this
  rcases snoc_of nd.kids with h0 | ⟨r, m, h1⟩
  · exact new (put_none e h0) (put_none e h0)
  · have hm := hk m (by rw [h1]; simp)
    have e' := List.getElem?_eq_getElem hm
    by_cases q : (U[m]).kind = "text"
    · rw [put_text e h1 e' q, put_text e h1 e' q]
      have b1 : (U.modify m fun q => {q with text := q.text ++ s1})[p]? = some (if p = m then {nd with text := nd.text ++ s1} else nd) := mod_get e
      have b2 : (U.modify m fun q => {q with text := q.text ++ s1})[m]? = some {U[m] with text := (U[m]).text ++ s1} := by rw [mod_get e']; simp
      rw [put_text b1 (l := r) (m := m) (by split <;> exact h1) b2 q, List.modify_modify_eq]
      congr 1
      funext w
      show Nd.mk _ _ _ ((w.text ++ s1) ++ s2) _ _ = Nd.mk _ _ _ _ _ _
      rw [str_assoc]
    · have n := beq_eq_false_iff_ne.mpr q
      exact new (put_other e h1 e' n) (put_other e h1 e' n)
end Mine
end

section
set_option maxRecDepth 100000
set_option autoImplicit false
set_option linter.unusedVariables false
set_option tactic.hygienic false
namespace Mine
open PySem PySem.W PySem.Calls PyProof.Rows
/-! the parts, signed through (this text is printed by genparts.py) -/
theorem rn0_false (buf last : Str) : oneRun false false 60 false ⟨.data, none, buf, last⟩ [60, 98, 62] = some (4, ⟨.data, none, buf, "b"⟩, [.start "b"]) := by kernel_rfl
theorem rn0_true (buf last : Str) : oneRun false true 60 false ⟨.data, none, buf, last⟩ [60, 98, 62] = some (4, ⟨.data, none, buf, "b"⟩, [.start "b"]) := by kernel_rfl
theorem rr0 (buf last : Str) : oneRun true false 60 false ⟨.rc, none, buf, "t"⟩ [60, 98, 62] = some (4, ⟨.rc, none, buf, "t"⟩, [.char (ch 60), .char (ch 98), .char (ch 62)]) := by kernel_rfl
theorem rn1_false (buf last : Str) : oneRun false false 60 false ⟨.data, none, buf, last⟩ [60, 47, 98, 62] = some (5, ⟨.data, none, buf, last⟩, [.fin "b"]) := by kernel_rfl
theorem rn1_true (buf last : Str) : oneRun false true 60 false ⟨.data, none, buf, last⟩ [60, 47, 98, 62] = some (5, ⟨.data, none, buf, last⟩, [.fin "b"]) := by kernel_rfl
theorem rr1 (buf last : Str) : oneRun true false 60 false ⟨.rc, none, buf, "t"⟩ [60, 47, 98, 62] = some (6, ⟨.rc, none, "b", "t"⟩, [.char (ch 60), .char (ch 47), .char (ch 98), .char (ch 62)]) := by kernel_rfl
theorem rn2_false (buf last : Str) : oneRun false false 60 false ⟨.data, none, buf, last⟩ [60, 115, 62] = some (4, ⟨.data, none, buf, "s"⟩, [.start "s"]) := by kernel_rfl
theorem rn2_true (buf last : Str) : oneRun false true 60 false ⟨.data, none, buf, last⟩ [60, 115, 62] = some (4, ⟨.data, none, buf, "s"⟩, [.start "s"]) := by kernel_rfl
theorem rr2 (buf last : Str) : oneRun true false 60 false ⟨.rc, none, buf, "t"⟩ [60, 115, 62] = some (4, ⟨.rc, none, buf, "t"⟩, [.char (ch 60), .char (ch 115), .char (ch 62)]) := by kernel_rfl
theorem rn3_false (buf last : Str) : oneRun false false 60 false ⟨.data, none, buf, last⟩ [60, 47, 115, 62] = some (5, ⟨.data, none, buf, last⟩, [.fin "s"]) := by kernel_rfl
theorem rn3_true (buf last : Str) : oneRun false true 60 false ⟨.data, none, buf, last⟩ [60, 47, 115, 62] = some (5, ⟨.data, none, buf, last⟩, [.fin "s"]) := by kernel_rfl
theorem rr3 (buf last : Str) : oneRun true false 60 false ⟨.rc, none, buf, "t"⟩ [60, 47, 115, 62] = some (6, ⟨.rc, none, "s", "t"⟩, [.char (ch 60), .char (ch 47), .char (ch 115), .char (ch 62)]) := by kernel_rfl
theorem rn4_false (buf last : Str) : oneRun false false 60 false ⟨.data, none, buf, last⟩ [60, 116, 62] = some (4, ⟨.rc, none, buf, "t"⟩, [.start "t"]) := by kernel_rfl
theorem rn4_true (buf last : Str) : oneRun false true 60 false ⟨.data, none, buf, last⟩ [60, 116, 62] = some (4, ⟨.data, none, buf, "t"⟩, [.start "t"]) := by kernel_rfl
theorem rr4 (buf last : Str) : oneRun true false 60 false ⟨.rc, none, buf, "t"⟩ [60, 116, 62] = some (4, ⟨.rc, none, buf, "t"⟩, [.char (ch 60), .char (ch 116), .char (ch 62)]) := by kernel_rfl
theorem rn5_false (buf last : Str) : oneRun false false 60 false ⟨.data, none, buf, last⟩ [60, 47, 116, 62] = some (5, ⟨.data, none, buf, last⟩, [.fin "t"]) := by kernel_rfl
theorem rn5_true (buf last : Str) : oneRun false true 60 false ⟨.data, none, buf, last⟩ [60, 47, 116, 62] = some (5, ⟨.data, none, buf, last⟩, [.fin "t"]) := by kernel_rfl
theorem rr5 (buf last : Str) : oneRun true false 60 false ⟨.rc, none, buf, "t"⟩ [60, 47, 116, 62] = some (5, ⟨.data, none, "t", "t"⟩, [.fin "t"]) := by kernel_rfl
theorem rn6_false (buf last : Str) : oneRun false false 60 false ⟨.data, none, buf, last⟩ [120] = some (1, ⟨.data, none, buf, last⟩, [.char (ch 120)]) := by kernel_rfl
theorem rn6_true (buf last : Str) : oneRun false true 60 false ⟨.data, none, buf, last⟩ [120] = some (1, ⟨.data, none, buf, last⟩, [.char (ch 120)]) := by kernel_rfl
theorem rr6 (buf last : Str) : oneRun true false 60 false ⟨.rc, none, buf, "t"⟩ [120] = some (1, ⟨.rc, none, buf, "t"⟩, [.char (ch 120)]) := by kernel_rfl
theorem rn7_false (buf last : Str) : oneRun false false 60 false ⟨.bogus, some (.com, "", "[CDATA["), buf, last⟩ [121, 93, 93, 62] = some (4, ⟨.data, none, buf, last⟩, [.com "[CDATA[y]]"]) := by kernel_rfl
theorem rn7_true (buf last : Str) : oneRun false true 60 false ⟨.cd, none, buf, last⟩ [121, 93, 93, 62] = some (4, ⟨.data, none, buf, last⟩, [.char (ch 121)]) := by kernel_rfl
theorem rr7 (buf last : Str) : oneRun true false 60 false ⟨.rc, none, buf, "t"⟩ [60, 33, 91, 67, 68, 65, 84, 65, 91, 121, 93, 93, 62] = some (14, ⟨.rc, none, buf, "t"⟩, [.char (ch 60), .char (ch 33), .char (ch 91), .char (ch 67), .char (ch 68), .char (ch 65), .char (ch 84), .char (ch 65), .char (ch 91), .char (ch 121), .char (ch 93), .char (ch 93), .char (ch 62)]) := by kernel_rfl
theorem rn8_false (buf last : Str) : oneRun false false 60 false ⟨.data, none, buf, last⟩ [60, 47, 84, 62] = some (5, ⟨.data, none, buf, last⟩, [.fin "t"]) := by kernel_rfl
theorem rn8_true (buf last : Str) : oneRun false true 60 false ⟨.data, none, buf, last⟩ [60, 47, 84, 62] = some (5, ⟨.data, none, buf, last⟩, [.fin "t"]) := by kernel_rfl
theorem rr8 (buf last : Str) : oneRun true false 60 false ⟨.rc, none, buf, "t"⟩ [60, 47, 84, 62] = some (5, ⟨.data, none, "T", "t"⟩, [.fin "t"]) := by kernel_rfl
theorem rn9_false (buf last : Str) : oneRun false false 60 false ⟨.bogus, some (.com, "", "[CDATA["), buf, last⟩ [93, 60, 98, 62, 93, 93, 62] = some (7, ⟨.data, none, buf, last⟩, [.com "[CDATA[]<b", .char (ch 93), .char (ch 93), .char (ch 62)]) := by kernel_rfl
theorem rn9_true (buf last : Str) : oneRun false true 60 false ⟨.cd, none, buf, last⟩ [93, 60, 98, 62, 93, 93, 62] = some (8, ⟨.data, none, buf, last⟩, [.char (ch 93), .char (ch 60), .char (ch 98), .char (ch 62)]) := by kernel_rfl
theorem rr9 (buf last : Str) : oneRun true false 60 false ⟨.rc, none, buf, "t"⟩ [60, 33, 91, 67, 68, 65, 84, 65, 91, 93, 60, 98, 62, 93, 93, 62] = some (18, ⟨.rc, none, buf, "t"⟩, [.char (ch 60), .char (ch 33), .char (ch 91), .char (ch 67), .char (ch 68), .char (ch 65), .char (ch 84), .char (ch 65), .char (ch 91), .char (ch 93), .char (ch 60), .char (ch 98), .char (ch 62), .char (ch 93), .char (ch 93), .char (ch 62)]) := by kernel_rfl
theorem rn10_false (buf last : Str) : oneRun false false 60 false ⟨.data, none, buf, last⟩ [60, 66, 62] = some (4, ⟨.data, none, buf, "b"⟩, [.start "b"]) := by kernel_rfl
theorem rn10_true (buf last : Str) : oneRun false true 60 false ⟨.data, none, buf, last⟩ [60, 66, 62] = some (4, ⟨.data, none, buf, "b"⟩, [.start "b"]) := by kernel_rfl
theorem rr10 (buf last : Str) : oneRun true false 60 false ⟨.rc, none, buf, "t"⟩ [60, 66, 62] = some (4, ⟨.rc, none, buf, "t"⟩, [.char (ch 60), .char (ch 66), .char (ch 62)]) := by kernel_rfl
theorem rn11_false (buf last : Str) : oneRun false false 60 false ⟨.data, none, buf, last⟩ [121, 122] = some (2, ⟨.data, none, buf, last⟩, [.char (ch 121), .char (ch 122)]) := by kernel_rfl
theorem rn11_true (buf last : Str) : oneRun false true 60 false ⟨.data, none, buf, last⟩ [121, 122] = some (2, ⟨.data, none, buf, last⟩, [.char (ch 121), .char (ch 122)]) := by kernel_rfl
theorem rr11 (buf last : Str) : oneRun true false 60 false ⟨.rc, none, buf, "t"⟩ [121, 122] = some (2, ⟨.rc, none, buf, "t"⟩, [.char (ch 121), .char (ch 122)]) := by kernel_rfl
theorem rnMark (raw fo : Bool) (buf last : Str) : oneRun raw fo 60 false ⟨.data, none, buf, last⟩ [60, 33] = some (2, ⟨.mark, none, buf, last⟩, []) := by cases raw <;> cases fo <;> kernel_rfl
end Mine
end

section
set_option maxRecDepth 100000
set_option autoImplicit false
set_option tactic.hygienic false
namespace Mine
open PySem PySem.W PySem.Calls PyProof.Rows
noncomputable def partC : Nat → List Nat
  | 0 => [60, 98, 62]
  | 1 => [60, 47, 98, 62]
  | 2 => [60, 115, 62]
  | 3 => [60, 47, 115, 62]
  | 4 => [60, 116, 62]
  | 5 => [60, 47, 116, 62]
  | 6 => [120]
  | 7 => [60, 33, 91, 67, 68, 65, 84, 65, 91, 121, 93, 93, 62]
  | 8 => [60, 47, 84, 62]
  | 9 => [60, 33, 91, 67, 68, 65, 84, 65, 91, 93, 60, 98, 62, 93, 93, 62]
  | 10 => [60, 66, 62]
  | _ => [121, 122]
noncomputable def Z.putS (z : Z) (s : Str) : Z := {z with U := put z.U z.top s}
/-- a part read -/
noncomputable def Z.rdT (z : Z) (i : Nat) : Z := bif i == 5 || i == 8 then z.feed (.fin "t") else z.putS (txt (partC i))
noncomputable def Z.rdN (z : Z) : Nat → Z
  | 0 => z.feed (.start "b")
  | 1 => z.feed (.fin "b")
  | 2 => z.feed (.start "s")
  | 3 => z.feed (.fin "s")
  | 4 => z.feed (.start "t")
  | 5 => z.feed (.fin "t")
  | 6 => z.putS (txt [120])
  | 7 => bif z.isFor then z.putS (txt [121]) else z.feed (.com "[CDATA[y]]")
  | 8 => z.feed (.fin "t")
  | 9 => bif z.isFor then z.putS (txt [93, 60, 98, 62]) else (z.feed (.com "[CDATA[]<b")).putS (txt [93, 93, 62])
  | 10 => z.feed (.start "b")
  | _ => z.putS (txt [121, 122])
noncomputable def Z.rd (z : Z) (i : Nat) : Z := bif z.raw then z.rdT i else z.rdN i
/-- is there an error in it -/
noncomputable def Z.rdE (z : Z) (i p : Nat) : List Nat := bif z.raw then [] else bif i == 7 || i == 9 then (bif z.isFor then [] else [p + 8]) else []
theorem rd_t {z : Z} (h : z.raw = true) (i : Nat) : z.rd i = z.rdT i := by unfold Z.rd; rw [h]; rfl
theorem rd_n {z : Z} (h : z.raw = false) (i : Nat) : z.rd i = z.rdN i := by unfold Z.rd; rw [h]; rfl
theorem rdE_t {z : Z} (h : z.raw = true) (i p : Nat) : z.rdE i p = [] := by unfold Z.rdE; rw [h]; rfl
theorem rdE_n {z : Z} (h : z.raw = false) (i p : Nat) : z.rdE i p = bif i == 7 || i == 9 then (bif z.isFor then [] else [p + 8]) else [] := by unfold Z.rdE; rw [h]; rfl
theorem lt12 {i : Nat} (h : i < 12) : i = 0 ∨ i = 1 ∨ i = 2 ∨ i = 3 ∨ i = 4 ∨ i = 5 ∨ i = 6 ∨ i = 7 ∨ i = 8 ∨ i = 9 ∨ i = 10 ∨ i = 11 := (by decide +kernel : ∀ i, i < 12 → i = 0 ∨ i = 1 ∨ i = 2 ∨ i = 3 ∨ i = 4 ∨ i = 5 ∨ i = 6 ∨ i = 7 ∨ i = 8 ∨ i = 9 ∨ i = 10 ∨ i = 11) i h
theorem WF.isF {z : Z} {k : Nat} (W : WF z k) : z.isF = z.isFor := by
  obtain ⟨t, S, nd, e, _, _⟩ := W.topIn
  unfold Z.isF
  rw [e]; rfl
theorem txt_cons (c : Nat) (l : List Nat) : ch c ++ txt l = txt (c :: l) := by
  show Str.mk (#[c] ++ l.toArray) = Str.mk (c :: l).toArray
  simp
theorem feeds_chars : ∀ (l : List Nat) {z : Z} {k : Nat}, WF z k → l ≠ [] → z.feeds (l.map fun c => .char (ch c)) = z.putS (txt l)
  | [], _, _, _, h => absurd rfl h
  | [c], z, k, W, _ => rfl
  | c :: c' :: l, z, k, W, _ => by
    have W1 := W.feed (.char (ch c)) (by show (1 : Nat) ≤ 100; decide) (fun h => nomatch h)
    have R := feeds_chars (c' :: l) W1 (List.cons_ne_nil _ _)
    show (z.feed (.char (ch c))).feeds ((c' :: l).map fun c => .char (ch c)) = _
    rw [R]
    obtain ⟨t, S, nd, e, et, eU⟩ := W.topIn
    have P := put_put eU (fun j hj => (W.kid _ _ eU j hj).2) (ch c) (txt (c' :: l))
    show Z.mk (put (put z.U z.top (ch c)) z.top (txt (c' :: l))) z.S z.raw z.fin z.err = Z.mk (put z.U z.top (txt (c :: c' :: l))) z.S z.raw z.fin z.err
    rw [et, P, txt_cons]
/-- the tokenizer between the parts -/
structure BaseT (raw : Bool) (t : TM) : Prop where
  dr : t.dr = none
  st : t.st = bif raw then .rc else .data
  last : raw = true → t.last = "t"
theorem cd_at {pre post : List Nat} {p : Nat} (hp : pre.length = p) : ∀ (j a : Nat), cdW[j]? = some a → (pre ++ [60, 33] ++ cdW ++ post)[p + 2 + j]? = some a := fun j a h => by
  have hl : (pre ++ [60, 33]).length = p + 2 := by simp [hp]
  rw [List.append_assoc (pre ++ [60, 33]), List.getElem?_append_right (by omega), hl, Nat.add_sub_cancel_left]
  exact get_app h _
theorem mark_path {raw : Bool} {z : Z} {k : Nat} (W : WF z k) {buf last : Str} {tx pre post : List Nat} {p : Nat} {er : List Nat} (htx : tx = pre ++ [60, 33] ++ cdW ++ post) (hp : pre.length = p) (hr : z.raw = raw) (he : er.length ≤ 1000) :
    Path tx 3 ⟨z, ⟨.data, none, buf, last⟩, p, er⟩ (bif z.isFor then ⟨z, ⟨.cd, none, buf, last⟩, p + 9, er⟩ else ⟨z, ⟨.bogus, some (.com, "", "[CDATA["), buf, last⟩, p + 9, er ++ [p + 8]⟩) := by
  have R := oneRun_path (tx := tx) (post := cdW ++ post) (rnMark raw z.isFor buf last) z p er pre (by rw [htx]; simp) hp (by decide) (fun _ => ⟨hr, rfl⟩)
  have C := cd_at (post := post) hp
  rw [← htx] at C
  cases hf : z.isFor with
  | true => exact R.trans (.cons (.cd rfl C (W.isF.trans hf)) .nil)
  | false => exact R.trans (.cons (.com rfl C (W.isF.trans hf) he) .nil)
/-- one part: the path, and what stands behind it -/
noncomputable def PtR (tx : List Nat) (z : Z) (t : TM) (p : Nat) (er : List Nat) (i : Nat) (z' : Z) (er' : List Nat) : Prop :=
  ∃ N t', N ≤ 60 ∧ Path tx N ⟨z, t, p, er⟩ ⟨z', t', p + (partC i).length, er ++ er'⟩ ∧ BaseT z'.raw t'
section
variable {z : Z} {k : Nat} {buf buf' last last' : Str} {i N p : Nat} {tx pre post : List Nat} {er : List Nat} {toks : List Tk} {st' : Sta}
theorem pt_chars (W : WF z k) (hr : z.raw = true) (htx : tx = pre ++ partC i ++ post) (hp : pre.length = p) (h3 : partC i ≠ []) (h4 : N ≤ 60) (h5 : ∀ a ∈ partC i, a ∈ okC)
    (h6 : oneRun true false 60 false ⟨.rc, none, buf, "t"⟩ (partC i) = some (N, ⟨.rc, none, buf', "t"⟩, (partC i).map fun c => .char (ch c))) : PtR tx z ⟨.rc, none, buf, "t"⟩ p er i (z.putS (txt (partC i))) [] := by
  have hz : z.isFor = false := by
    obtain ⟨t, u, r, a, b, e, h1, h2, _⟩ := W.rw hr
    unfold Z.isFor Z.cur Z.top
    rw [e, List.headD_cons, at_eq h1, h2]; decide
  have R := oneRun_path h6 z p er pre htx hp h5 (fun _ => ⟨hr, hz⟩)
  rw [feeds_chars _ W h3] at R
  exact ⟨N, _, h4, by rw [List.append_nil]; exact R, ⟨rfl, by show Sta.rc = bif z.raw then .rc else .data; rw [hr]; rfl, fun _ => rfl⟩⟩
theorem pt_fin (W : WF z k) (hr : z.raw = true) (htx : tx = pre ++ partC i ++ post) (hp : pre.length = p) (h5 : ∀ a ∈ partC i, a ∈ okC)
    (h6 : oneRun true false 60 false ⟨.rc, none, buf, "t"⟩ (partC i) = some (5, ⟨.data, none, (oneRun true false 60 false ⟨.rc, none, buf, "t"⟩ (partC i)).elim "" fun r => r.2.1.buf, "t"⟩, [.fin "t"])) : PtR tx z ⟨.rc, none, buf, "t"⟩ p er i (z.feed (.fin "t")) [] := by
  have hz : z.isFor = false := by
    obtain ⟨t, u, r, a, b, e, h1, h2, _⟩ := W.rw hr
    unfold Z.isFor Z.cur Z.top
    rw [e, List.headD_cons, at_eq h1, h2]; decide
  have R := oneRun_path h6 z p er pre htx hp h5 (fun _ => ⟨hr, hz⟩)
  have hraw : (z.feed (.fin "t")).raw = false := by
    show (bif z.raw then ({z with S := z.S.tail, raw := false} : Z) else _).raw = false
    rw [hr]; rfl
  exact ⟨5, _, by decide, by rw [List.append_nil]; exact R, ⟨rfl, (by rw [hraw]; rfl), (fun _ => rfl)⟩⟩
theorem part_raw (W : WF z k) (hr : z.raw = true) (hi : i < 12) (htx : tx = pre ++ partC i ++ post) (hp : pre.length = p) : PtR tx z ⟨.rc, none, buf, "t"⟩ p er i (z.rdT i) [] := by
  rcases lt12 hi with rfl | rfl | rfl | rfl | rfl | rfl | rfl | rfl | rfl | rfl | rfl | rfl
  · exact pt_chars W hr htx hp (by decide) (by decide) (by decide) (rr0 buf "")
  · exact pt_chars W hr htx hp (by decide) (by decide) (by decide) (rr1 buf "")
  · exact pt_chars W hr htx hp (by decide) (by decide) (by decide) (rr2 buf "")
  · exact pt_chars W hr htx hp (by decide) (by decide) (by decide) (rr3 buf "")
  · exact pt_chars W hr htx hp (by decide) (by decide) (by decide) (rr4 buf "")
  · exact pt_fin W hr htx hp (by decide) (rr5 buf "")
  · exact pt_chars W hr htx hp (by decide) (by decide) (by decide) (rr6 buf "")
  · exact pt_chars W hr htx hp (by decide) (by decide) (by decide) (rr7 buf "")
  · exact pt_fin W hr htx hp (by decide) (rr8 buf "")
  · exact pt_chars W hr htx hp (by decide) (by decide) (by decide) (rr9 buf "")
  · exact pt_chars W hr htx hp (by decide) (by decide) (by decide) (rr10 buf "")
  · exact pt_chars W hr htx hp (by decide) (by decide) (by decide) (rr11 buf "")
theorem rawF (hr : z.raw = false) (nm : Str) : (z.feed (.fin nm)).raw = false := by
  show (bif z.raw then ({z with S := z.S.tail, raw := false} : Z) else bif decide (1 < z.S.length) && z.cur.name == nm then {z with S := z.S.tail} else z).raw = false
  rw [hr]
  cases (decide (1 < z.S.length) && z.cur.name == nm) <;> first | rfl | exact hr
theorem rawS (hr : z.raw = false) (nm : Str) : (z.feed (.start nm)).raw = (bif z.isFor && !(nm == "b") then false else nm == "t") := by
  show (bif z.isFor && !(nm == "b") then z.open_ "svg" nm else bif nm == "t" then {z.open_ "html" "t" with raw := true} else z.out.open_ (bif nm == "s" then "svg" else "html") nm).raw = _
  cases (z.isFor && !(nm == "b"))
  · cases nm == ("t" : Str)
    · exact hr
    · rfl
  · exact hr
theorem rawSf (hr : z.raw = false) {nm : Str} (h : (nm == ("t" : Str)) = false) : (z.feed (.start nm)).raw = false := by
  rw [rawS hr, h]
  cases (z.isFor && !(nm == "b")) <;> rfl
/-- a part of one run -/
theorem pt_one (hr : z.raw = false) (htx : tx = pre ++ partC i ++ post) (hp : pre.length = p) {raw' : Bool} (h3 : (z.feeds toks).raw = raw') (h4 : st' = (bif raw' then .rc else .data)) (h5 : raw' = true → last' = "t") (h7 : ∀ a ∈ partC i, a ∈ okC)
    (h8 : oneRun false z.isFor 60 false ⟨.data, none, buf, last⟩ (partC i) = some (N, ⟨st', none, buf', last'⟩, toks)) (h6 : N ≤ 60) : PtR tx z ⟨.data, none, buf, last⟩ p er i (z.feeds toks) [] := by
  have R := oneRun_path h8 z p er pre htx hp h7 (fun _ => ⟨hr, rfl⟩)
  exact ⟨N, _, h6, by rw [List.append_nil]; exact R, ⟨rfl, by rw [h3]; exact h4, fun h => h5 (h3.symm.trans h)⟩⟩
theorem pt_data (hr : z.raw = false) (htx : tx = pre ++ partC i ++ post) (hp : pre.length = p) (h3 : (z.feeds toks).raw = false) (h7 : ∀ a ∈ partC i, a ∈ okC)
    (h8 : oneRun false z.isFor 60 false ⟨.data, none, buf, last⟩ (partC i) = some (N, ⟨.data, none, buf', last'⟩, toks)) (h6 : N ≤ 60) : PtR tx z ⟨.data, none, buf, last⟩ p er i (z.feeds toks) [] :=
  pt_one hr htx hp h3 rfl (fun h => nomatch h) h7 h8 h6
theorem mark_end (hr : z.raw = false) : BaseT z.raw ⟨.data, none, buf, last⟩ := ⟨rfl, by show Sta.data = bif z.raw then .rc else .data; rw [hr]; rfl, fun h => by rw [hr] at h; cases h⟩
theorem pt_7 (W : WF z k) (hr : z.raw = false) (htx : tx = pre ++ partC 7 ++ post) (hp : pre.length = p) (he : er.length ≤ 900) : PtR tx z ⟨.data, none, buf, last⟩ p er 7 (z.rdN 7) (bif z.isFor then [] else [p + 8]) := by
  have e7 : partC 7 = [60, 33] ++ cdW ++ [121, 93, 93, 62] := rfl
  have M := mark_path (post := [121, 93, 93, 62] ++ post) W (buf := buf) (last := last) (tx := tx) (er := er) (by rw [htx, e7]; simp only [List.append_assoc]) hp hr (by omega)
  have hp9 : (pre ++ [60, 33] ++ cdW).length = p + 9 := by simp [hp, cdW]
  have htx9 : tx = (pre ++ [60, 33] ++ cdW) ++ [121, 93, 93, 62] ++ post := by rw [htx, e7]; simp only [List.append_assoc]
  show PtR _ _ _ _ _ _ (bif z.isFor then z.putS (txt [121]) else z.feed (.com "[CDATA[y]]")) _
  cases hf : z.isFor with
  | false =>
    rw [hf] at M
    exact ⟨_, _, by decide, M.trans (oneRun_path (rn7_false buf last) z (p + 9) (er ++ [p + 8]) _ htx9 hp9 (by decide) (fun _ => ⟨hr, hf⟩)), mark_end hr⟩
  | true =>
    rw [hf] at M
    have R := oneRun_path (rn7_true buf last) z (p + 9) er _ htx9 hp9 (by decide) (fun _ => ⟨hr, hf⟩)
    have F : z.feeds [.char (ch 121)] = z.putS (txt [121]) := feeds_chars [121] W (by decide)
    rw [F] at R
    exact ⟨3 + 4, ⟨.data, none, buf, last⟩, by decide, by show Path _ _ _ ⟨_, _, _, er ++ []⟩; rw [List.append_nil]; exact M.trans R, mark_end hr⟩
theorem pt_9 (W : WF z k) (hr : z.raw = false) (htx : tx = pre ++ partC 9 ++ post) (hp : pre.length = p) (he : er.length ≤ 900) : PtR tx z ⟨.data, none, buf, last⟩ p er 9 (z.rdN 9) (bif z.isFor then [] else [p + 8]) := by
  have e7 : partC 9 = [60, 33] ++ cdW ++ [93, 60, 98, 62, 93, 93, 62] := rfl
  have M := mark_path (post := [93, 60, 98, 62, 93, 93, 62] ++ post) W (buf := buf) (last := last) (tx := tx) (er := er) (by rw [htx, e7]; simp only [List.append_assoc]) hp hr (by omega)
  have hp9 : (pre ++ [60, 33] ++ cdW).length = p + 9 := by simp [hp, cdW]
  have htx9 : tx = (pre ++ [60, 33] ++ cdW) ++ [93, 60, 98, 62, 93, 93, 62] ++ post := by rw [htx, e7]; simp only [List.append_assoc]
  show PtR _ _ _ _ _ _ (bif z.isFor then z.putS (txt [93, 60, 98, 62]) else (z.feed (.com "[CDATA[]<b")).putS (txt [93, 93, 62])) _
  cases hf : z.isFor with
  | false =>
    rw [hf] at M
    have W1 := W.feed (.com "[CDATA[]<b") ⟨hr, by decide⟩ (fun h => nomatch h)
    have R := oneRun_path (rn9_false buf last) z (p + 9) (er ++ [p + 8]) _ htx9 hp9 (by decide) (fun _ => ⟨hr, hf⟩)
    have F : z.feeds [.com "[CDATA[]<b", .char (ch 93), .char (ch 93), .char (ch 62)] = (z.feed (.com "[CDATA[]<b")).putS (txt [93, 93, 62]) := feeds_chars (z := z.feed (.com "[CDATA[]<b")) [93, 93, 62] W1 (by decide)
    rw [F] at R
    have hr2 : ((z.feed (.com "[CDATA[]<b")).putS (txt [93, 93, 62])).raw = false := hr
    exact ⟨_, _, by decide, M.trans R, mark_end hr2⟩
  | true =>
    rw [hf] at M
    have R := oneRun_path (rn9_true buf last) z (p + 9) er _ htx9 hp9 (by decide) (fun _ => ⟨hr, hf⟩)
    have F : z.feeds [.char (ch 93), .char (ch 60), .char (ch 98), .char (ch 62)] = z.putS (txt [93, 60, 98, 62]) := feeds_chars [93, 60, 98, 62] W (by decide)
    rw [F] at R
    exact ⟨3 + 8, ⟨.data, none, buf, last⟩, by decide, by show Path _ _ _ ⟨_, _, _, er ++ []⟩; rw [List.append_nil]; exact M.trans R, mark_end hr⟩
theorem part_data (W : WF z k) (hr : z.raw = false) (hi : i < 12) (htx : tx = pre ++ partC i ++ post) (hp : pre.length = p) (he : er.length ≤ 900) :
    PtR tx z ⟨.data, none, buf, last⟩ p er i (z.rdN i) (bif i == 7 || i == 9 then (bif z.isFor then [] else [p + 8]) else []) := by
  rcases lt12 hi with rfl | rfl | rfl | rfl | rfl | rfl | rfl | rfl | rfl | rfl | rfl | rfl
  · cases hf : z.isFor
    · exact pt_data (toks := [.start "b"]) hr htx hp (rawSf hr (by decide)) (by decide) (by rw [hf]; exact rn0_false buf last) (by decide)
    · exact pt_data (toks := [.start "b"]) hr htx hp (rawSf hr (by decide)) (by decide) (by rw [hf]; exact rn0_true buf last) (by decide)
  · cases hf : z.isFor
    · exact pt_data (toks := [.fin "b"]) hr htx hp (rawF hr _) (by decide) (by rw [hf]; exact rn1_false buf last) (by decide)
    · exact pt_data (toks := [.fin "b"]) hr htx hp (rawF hr _) (by decide) (by rw [hf]; exact rn1_true buf last) (by decide)
  · cases hf : z.isFor
    · exact pt_data (toks := [.start "s"]) hr htx hp (rawSf hr (by decide)) (by decide) (by rw [hf]; exact rn2_false buf last) (by decide)
    · exact pt_data (toks := [.start "s"]) hr htx hp (rawSf hr (by decide)) (by decide) (by rw [hf]; exact rn2_true buf last) (by decide)
  · cases hf : z.isFor
    · exact pt_data (toks := [.fin "s"]) hr htx hp (rawF hr _) (by decide) (by rw [hf]; exact rn3_false buf last) (by decide)
    · exact pt_data (toks := [.fin "s"]) hr htx hp (rawF hr _) (by decide) (by rw [hf]; exact rn3_true buf last) (by decide)
  · cases hf : z.isFor
    · exact pt_one (toks := [.start "t"]) hr htx hp (raw' := true) (by show (z.feed (.start "t")).raw = true; rw [rawS hr, hf]; rfl) rfl (fun _ => rfl) (by decide) (by rw [hf]; exact rn4_false buf last) (by decide)
    · exact pt_data (toks := [.start "t"]) hr htx hp (by show (z.feed (.start "t")).raw = false; rw [rawS hr, hf]; rfl) (by decide) (by rw [hf]; exact rn4_true buf last) (by decide)
  · cases hf : z.isFor
    · exact pt_data (toks := [.fin "t"]) hr htx hp (rawF hr _) (by decide) (by rw [hf]; exact rn5_false buf last) (by decide)
    · exact pt_data (toks := [.fin "t"]) hr htx hp (rawF hr _) (by decide) (by rw [hf]; exact rn5_true buf last) (by decide)
  · show PtR _ _ _ _ _ _ (z.putS (txt [120])) _
    rw [← feeds_chars [120] W (by decide)]
    cases hf : z.isFor
    · exact pt_data hr htx hp hr (by decide) (by rw [hf]; exact rn6_false buf last) (by decide)
    · exact pt_data hr htx hp hr (by decide) (by rw [hf]; exact rn6_true buf last) (by decide)
  · exact pt_7 W hr htx hp he
  · cases hf : z.isFor
    · exact pt_data (toks := [.fin "t"]) hr htx hp (rawF hr _) (by decide) (by rw [hf]; exact rn8_false buf last) (by decide)
    · exact pt_data (toks := [.fin "t"]) hr htx hp (rawF hr _) (by decide) (by rw [hf]; exact rn8_true buf last) (by decide)
  · exact pt_9 W hr htx hp he
  · cases hf : z.isFor
    · exact pt_data (toks := [.start "b"]) hr htx hp (rawSf hr (by decide)) (by decide) (by rw [hf]; exact rn10_false buf last) (by decide)
    · exact pt_data (toks := [.start "b"]) hr htx hp (rawSf hr (by decide)) (by decide) (by rw [hf]; exact rn10_true buf last) (by decide)
  · show PtR _ _ _ _ _ _ (z.putS (txt [121, 122])) _
    rw [← feeds_chars [121, 122] W (by decide)]
    cases hf : z.isFor
    · exact pt_data hr htx hp hr (by decide) (by rw [hf]; exact rn11_false buf last) (by decide)
    · exact pt_data hr htx hp hr (by decide) (by rw [hf]; exact rn11_true buf last) (by decide)
theorem part_path (W : WF z k) {t : TM} (B : BaseT z.raw t) (hi : i < 12) (htx : tx = pre ++ partC i ++ post) (hp : pre.length = p) (he : er.length ≤ 900) :
    ∃ N t', N ≤ 60 ∧ Path tx N ⟨z, t, p, er⟩ ⟨z.rd i, t', p + (partC i).length, er ++ z.rdE i p⟩ ∧ BaseT (z.rd i).raw t' := by
  show PtR tx z t p er i (z.rd i) (z.rdE i p)
  obtain ⟨st, dr, buf, last⟩ := t
  obtain ⟨hdr, hs, hl⟩ := B
  obtain rfl : dr = none := hdr
  have hs : st = bif z.raw then .rc else .data := hs
  cases hr : z.raw with
  | true =>
    rw [hr] at hs
    obtain rfl : st = .rc := hs
    obtain rfl : last = "t" := hl hr
    rw [rd_t hr, rdE_t hr]
    exact part_raw W hr hi htx hp
  | false =>
    rw [hr] at hs
    obtain rfl : st = .data := hs
    rw [rd_n hr, rdE_n hr]
    exact part_data W hr hi htx hp he
end
end Mine
end

section
set_option maxRecDepth 100000
set_option autoImplicit false
set_option tactic.hygienic false
namespace Mine
open PySem PySem.W PySem.Calls PyProof.Rows
theorem Path.wf {tx : List Nat} {N : Nat} {c c' : Cf} (P : Path tx N c c') : ∀ {k : Nat}, WF c.z k → WF c'.z (k + 300 * N) := by
  induction P with
  | nil => intro k W; exact W
  | @cons N c c1 c2 s P ih =>
    intro k W
    have W1 : WF c1.z (k + 300) := by
      cases s with
      | one h1 h2 h3 h4 h5 h6 => exact (WF.feeds _ W h4 h5).up (by omega)
      | cd h1 h2 h3 => exact W.up (by omega)
      | com h1 h2 h3 h4 => exact W.up (by omega)
    exact (ih W1).up (by omega)
noncomputable def Z.rds (z : Z) : List Nat → Z
  | [] => z
  | i :: r => (z.rd i).rds r
noncomputable def flat (is : List Nat) : List Nat := is.flatMap partC
noncomputable def Z.rdEs (z : Z) (p : Nat) : List Nat → List Nat
  | [] => []
  | i :: r => z.rdE i p ++ (z.rd i).rdEs (p + (partC i).length) r
theorem rdE_len (z : Z) (i p : Nat) : (z.rdE i p).length ≤ 1 := by
  unfold Z.rdE
  cases z.raw
  · cases (i == 7 || i == 9)
    · exact Nat.zero_le _
    · cases z.isFor
      · exact Nat.le_refl _
      · exact Nat.zero_le _
  · exact Nat.zero_le _
/-- all parts, sign by sign -/
theorem parts_path {tx : List Nat} : ∀ (is : List Nat), (∀ i ∈ is, i < 12) → ∀ {z : Z} {k : Nat}, WF z k → ∀ {t : TM}, BaseT z.raw t → ∀ {pre post : List Nat} {p : Nat} {er : List Nat}, tx = pre ++ flat is ++ post → pre.length = p → er.length + is.length ≤ 900 →
    ∃ N t', N ≤ 60 * is.length ∧ Path tx N ⟨z, t, p, er⟩ ⟨z.rds is, t', p + (flat is).length, er ++ z.rdEs p is⟩ ∧ BaseT (z.rds is).raw t'
  | [], _, z, k, _, t, B, pre, post, p, er, _, _, _ => ⟨0, t, Nat.zero_le _, by
      show Path tx 0 ⟨z, t, p, er⟩ ⟨z, t, p + 0, er ++ []⟩
      rw [List.append_nil]; exact .nil, B⟩
  | i :: is, h, z, k, W, t, B, pre, post, p, er, htx, hp, he => by
    simp only [List.length_cons] at he
    obtain ⟨N1, t1, a1, P1, B1⟩ := part_path W B (h i (.head _)) (tx := tx) (pre := pre) (post := flat is ++ post) (er := er) (by rw [htx]; simp [flat]) hp (by omega)
    have W1 : WF (z.rd i) (k + 300 * N1) := P1.wf W
    have hel := rdE_len z i p
    obtain ⟨N2, t2, a2, P2, B2⟩ := parts_path (tx := tx) is (fun j hj => h j (.tail _ hj)) W1 B1 (pre := pre ++ partC i) (post := post) (p := p + (partC i).length) (er := er ++ z.rdE i p) (by rw [htx]; simp [flat]) (by simp [hp]) (by simp; omega)
    refine ⟨N1 + N2, t2, by simp; omega, ?_, B2⟩
    have := P1.trans P2
    rw [List.append_assoc] at this
    have e : (flat (i :: is)).length = (partC i).length + (flat is).length := by simp [flat]
    rw [e, ← Nat.add_assoc]
    exact this

/-! ## the reading's heap -/
noncomputable def kidO (nd : Nd) : AO := .list (nd.kids.map fun j => .obj (.n (2 * j + 1)))
noncomputable def ndO (k : Nat) (nd : Nd) : AO := .list [.str nd.kind, .str nd.space, .str nd.name, .str nd.text, .obj (.n (2 * k))]
noncomputable def rnGo (k : Nat) : List Nd → List AO
  | [] => []
  | nd :: r => kidO nd :: ndO k nd :: rnGo (k + 1) r
noncomputable def gRN (U : List Nd) : List AO := rnGo 0 U
theorem rnGo_len : ∀ (U : List Nd) (k : Nat), (rnGo k U).length = 2 * U.length
  | [], _ => rfl
  | a :: U, k => by simp [rnGo, rnGo_len U]; omega
theorem rnGo_get : ∀ (U : List Nd) (k i : Nat) (nd : Nd), U[i]? = some nd → (rnGo k U)[2 * i]? = some (kidO nd) ∧ (rnGo k U)[2 * i + 1]? = some (ndO (k + i) nd)
  | [], _, _, _, h => by simp at h
  | a :: U, k, 0, nd, h => by simp at h; subst h; exact ⟨rfl, rfl⟩
  | a :: U, k, i + 1, nd, h => by
    obtain ⟨h1, h2⟩ := rnGo_get U (k + 1) i nd (by simpa using h)
    rw [show k + (i + 1) = k + 1 + i by omega]
    exact ⟨h1, h2⟩
theorem rnGo_app : ∀ (U : List Nd) (k : Nat) (nd : Nd), rnGo k (U ++ [nd]) = rnGo k U ++ [kidO nd, ndO (k + U.length) nd]
  | [], _, _ => rfl
  | a :: U, k, nd => by
    show kidO a :: ndO k a :: rnGo (k + 1) (U ++ [nd]) = _
    rw [rnGo_app U]
    have e : k + 1 + U.length = k + (a :: U).length := by simp; omega
    rw [e]
    rfl
theorem rnGo_kids (f : Nd → Nd) (hf : ∀ k a, ndO k (f a) = ndO k a) : ∀ (U : List Nd) (k p : Nat) (nd : Nd), U[p]? = some nd → (rnGo k U).set (2 * p) (kidO (f nd)) = rnGo k (U.modify p f)
  | [], _, _, _, h => by simp at h
  | a :: U, k, 0, nd, h => by simp at h; subst h; simp [rnGo, hf]
  | a :: U, k, p + 1, nd, h => by
    show kidO a :: ndO k a :: (rnGo (k + 1) U).set (2 * p) _ = _
    rw [rnGo_kids f hf U (k + 1) p nd (by simpa using h)]
    simp [rnGo]
theorem rnGo_node (f : Nd → Nd) (hf : ∀ a, kidO (f a) = kidO a) : ∀ (U : List Nd) (k p : Nat) (nd : Nd), U[p]? = some nd → (rnGo k U).set (2 * p + 1) (ndO (k + p) (f nd)) = rnGo k (U.modify p f)
  | [], _, _, _, h => by simp at h
  | a :: U, k, 0, nd, h => by simp at h; subst h; simp [rnGo, hf]
  | a :: U, k, p + 1, nd, h => by
    show kidO a :: ndO k a :: (rnGo (k + 1) U).set (2 * p + 1) _ = _
    rw [show k + (p + 1) = k + 1 + p by omega, rnGo_node f hf U (k + 1) p nd (by simpa using h)]
    simp [rnGo]
theorem gRN_len (U : List Nd) : (gRN U).length = 2 * U.length := rnGo_len U 0
theorem gRN_kid {U : List Nd} {i : Nat} {nd : Nd} (h : U[i]? = some nd) : (gRN U)[2 * i]? = some (kidO nd) := (rnGo_get U 0 i nd h).1
theorem gRN_nd {U : List Nd} {i : Nat} {nd : Nd} (h : U[i]? = some nd) : (gRN U)[2 * i + 1]? = some (ndO i nd) := by
  have := (rnGo_get U 0 i nd h).2
  rw [Nat.zero_add] at this
  exact this
theorem gRN_add {U : List Nd} {p : Nat} {nd nd' : Nd} (h : U[p]? = some nd) (hk : nd'.kids = []) :
    ((gRN U ++ [AO.list []]) ++ [ndO U.length nd']).set (2 * p) (AO.list ((nd.kids.map fun j => GV.obj (.n (2 * j + 1))) ++ [GV.obj (.n (2 * U.length + 1))])) = gRN (addNd U p nd') := by
  have hl : 2 * p < (gRN U).length := get_lt (gRN_kid h)
  have e1 : (AO.list ((nd.kids.map fun j => GV.obj (.n (2 * j + 1))) ++ [.obj (.n (2 * U.length + 1))])) = kidO {nd with kids := nd.kids ++ [U.length]} := by simp [kidO]
  have e2 : gRN (addNd U p nd') = gRN (U.modify p fun q => {q with kids := q.kids ++ [U.length]}) ++ [kidO nd', ndO U.length nd'] := by
    unfold gRN addNd
    rw [rnGo_app]
    simp
  have e3 : kidO nd' = .list [] := by unfold kidO; rw [hk]; rfl
  rw [e2, e1, List.append_assoc, List.set_append_left _ _ hl, e3]
  have := rnGo_kids (fun q => {q with kids := q.kids ++ [U.length]}) (fun _ _ => rfl) U 0 p nd h
  unfold gRN
  rw [this]
  rfl
theorem gRN_text {U : List Nd} {m : Nat} {nd : Nd} {s : Str} (h : U[m]? = some nd) : (gRN U).set (2 * m + 1) (ndO m {nd with text := nd.text ++ s}) = gRN (U.modify m fun q => {q with text := q.text ++ s}) := by
  have := rnGo_node (fun q => {q with text := q.text ++ s}) (fun _ => rfl) U 0 m nd h
  rw [Nat.zero_add] at this
  exact this
noncomputable def gStk (S : List Nat) : List GV := S.reverse.map fun i => .obj (.n (2 * i + 1))
theorem gStk_cons (t : Nat) (S : List Nat) : gStk (t :: S) = gStk S ++ [.obj (.n (2 * t + 1))] := by simp [gStk]
noncomputable def gErs (er : List Nat) : List GV := er.map fun p => gErr (.ofNat p)
/-- the reading's heap -/
noncomputable def rH (ps : AO) (z : Z) (er : List Nat) (d n : List AO) : AH := ⟨[ps, .list (gStk z.S), .list (gErs er)], d, gRN z.U ++ n⟩
end Mine
end

section
set_option maxRecDepth 100000
set_option autoImplicit false
set_option tactic.hygienic false
namespace Mine
open PySem PySem.W PySem.Calls PyProof.Rows
/-- the reading's heap, without what is dropped -/
noncomputable abbrev rA (c0 c2 : AO) (z : Z) (d : List AO) : AH := ⟨[c0, .list (gStk z.S), c2], d, gRN z.U⟩
noncomputable abbrev kL (l : List Nat) : List GV := l.map fun j => .obj (.n (2 * j + 1))
section
variable {K : Frag} (OK : PrOK K PP) {c0 c2 : AO} {z : Z} {k : Nat} {d : List AO} {t m : Nat} {S : List Nat} {nd nd' : Nd} {s : Str} {l : List Nat}
include OK
theorem lp_text0 (hS : z.S = t :: S) (e : z.U[t]? = some nd) (h0 : nd.kids = []) (hs : (s != "") = true) : ClOK K 20 1109 [.obj (.c 1), .str "text", .str s] (rA c0 c2 z d) .none (rA c0 c2 {z with U := addNd z.U t (txNd t s)} (d ++ [.list []])) := by
  have hk : (gRN z.U)[2 * t]? = some (.list []) := by rw [gRN_kid e]; unfold kidO; rw [h0]; rfl
  have R := run_call OK (b := 0) (j := 20) (f := 1109) (ga := [.obj (.c 1), .str "text", .str s]) (ah := rA c0 c2 z d) (g := .none) (hs' := []) (loc' := []) (ah' := ⟨[c0, .list (gStk z.S), c2], d ++ [.list []], ((gRN z.U ++ [AO.list []]) ++ [ndO z.U.length (txNd t s)]).set (2 * t) (AO.list ([] ++ [GV.obj (.n (2 * z.U.length + 1))]))⟩)
    (hs := [.l (gStk S) (.obj (.n (2 * t + 1))), .o (ndO t nd), .p .d, .o (.list []), .o (.list []), .a, .a, .t, .o (.list []), .q .n (2 * z.U.length), .q .n (2 * z.U.length + 1), .o (.list [])])
    (c := [gStk z.S = gStk S ++ [.obj (.n (2 * t + 1))], (gRN z.U)[2 * t + 1]? = some (ndO t nd), (gRN z.U)[2 * t]? = some (.list []), (d ++ [AO.list []])[d.length]? = some (.list []), (s != "") = true, (gRN z.U)[2 * t]? = some (.list []),
      Rf.n (gRN z.U).length = Rf.n (2 * z.U.length), Rf.n (gRN z.U ++ [AO.list []]).length = Rf.n (2 * z.U.length + 1), ((gRN z.U ++ [AO.list []]) ++ [ndO z.U.length (txNd t s)])[2 * t]? = some (.list []), 0 < 1000000]) (by kernel_rfl)
    ⟨by rw [hS, gStk_cons], gRN_nd e, hk, get_len _ _, hs, hk, by rw [gRN_len], by simp [gRN_len], get_app (get_app hk _) _, by decide, trivial⟩
  have A := gRN_add (nd' := txNd t s) e rfl
  rw [h0] at A
  have A' : ((gRN z.U ++ [AO.list []]) ++ [ndO z.U.length (txNd t s)]).set (2 * t) (AO.list ([] ++ [GV.obj (.n (2 * z.U.length + 1))])) = gRN (addNd z.U t (txNd t s)) := A
  rw [A'] at R
  exact R
theorem lp_text1 (hS : z.S = t :: S) (e : z.U[t]? = some nd) (h1 : nd.kids = l ++ [m]) (e' : z.U[m]? = some nd') (hk' : nd'.kind = "element" ∨ nd'.kind = "comment") (hs : (s != "") = true) (hl : nd.kids.length < 900000) :
    ClOK K 20 1109 [.obj (.c 1), .str "text", .str s] (rA c0 c2 z d) .none (rA c0 c2 {z with U := addNd z.U t (txNd t s)} (d ++ [.list []])) := by
  have hk : (gRN z.U)[2 * t]? = some (.list (kL l ++ [.obj (.n (2 * m + 1))])) := by rw [gRN_kid e]; unfold kidO; rw [h1]; simp
  have A := gRN_add (nd' := txNd t s) e rfl
  have eA : (nd.kids.map fun j => GV.obj (.n (2 * j + 1))) = kL l ++ [.obj (.n (2 * m + 1))] := by rw [h1]; simp
  rw [eA] at A
  have hne : (!((kL l ++ [GV.obj (.n (2 * m + 1))]).isEmpty)) = true := by cases l <;> rfl
  have hlen : (kL l ++ [GV.obj (.n (2 * m + 1))]).length < 1000000 := by rw [← eA]; simp; omega
  obtain ⟨kd, sp, nm, tx, par, kids⟩ := nd'
  have C : Ands [gStk z.S = gStk S ++ [.obj (.n (2 * t + 1))], (gRN z.U)[2 * t + 1]? = some (ndO t nd), (gRN z.U)[2 * t]? = some (.list (kL l ++ [.obj (.n (2 * m + 1))])), (d ++ [AO.list []])[d.length]? = some (.list []), (!((kL l ++ [GV.obj (.n (2 * m + 1))]).isEmpty)) = true,
      (gRN z.U)[2 * t]? = some (.list (kL l ++ [.obj (.n (2 * m + 1))])), kL l ++ [GV.obj (.n (2 * m + 1))] = kL l ++ [GV.obj (.n (2 * m + 1))], (gRN z.U)[2 * m + 1]? = some (ndO m ⟨kd, sp, nm, tx, par, kids⟩), (s != "") = true, (gRN z.U)[2 * t]? = some (.list (kL l ++ [.obj (.n (2 * m + 1))])),
      Rf.n (gRN z.U).length = Rf.n (2 * z.U.length), Rf.n (gRN z.U ++ [AO.list []]).length = Rf.n (2 * z.U.length + 1), ((gRN z.U ++ [AO.list []]) ++ [ndO z.U.length (txNd t s)])[2 * t]? = some (.list (kL l ++ [.obj (.n (2 * m + 1))])), (kL l ++ [GV.obj (.n (2 * m + 1))]).length < 1000000] :=
    ⟨by rw [hS, gStk_cons], gRN_nd e, hk, get_len _ _, hne, hk, rfl, gRN_nd e', hs, hk, by rw [gRN_len], by simp [gRN_len], get_app (get_app hk _) _, hlen, trivial⟩
  have fin : ∀ {x : AH}, ClOK K 20 1109 [.obj (.c 1), .str "text", .str s] (rA c0 c2 z d) .none ⟨[c0, .list (gStk z.S), c2], d ++ [.list []], ((gRN z.U ++ [AO.list []]) ++ [ndO z.U.length (txNd t s)]).set (2 * t) (AO.list ((kL l ++ [GV.obj (.n (2 * m + 1))]) ++ [GV.obj (.n (2 * z.U.length + 1))]))⟩ →
      ClOK K 20 1109 [.obj (.c 1), .str "text", .str s] (rA c0 c2 z d) .none (rA c0 c2 {z with U := addNd z.U t (txNd t s)} (d ++ [.list []])) := fun {_} R => by rw [A] at R; exact R
  have hk' : kd = "element" ∨ kd = "comment" := hk'
  rcases hk' with rfl | rfl
  · exact fin (x := ⟨[], [], []⟩) (run_call OK (b := 0) (j := 20) (hs' := []) (loc' := []) (hs := [.l (gStk S) (.obj (.n (2 * t + 1))), .o (ndO t nd), .p .d, .o (.list (kL l ++ [.obj (.n (2 * m + 1))])), .o (.list []), .t, .o (.list (kL l ++ [.obj (.n (2 * m + 1))])), .l (kL l) (.obj (.n (2 * m + 1))), .o (ndO m ⟨"element", sp, nm, tx, par, kids⟩), .a, .a, .t,
      .o (.list (kL l ++ [.obj (.n (2 * m + 1))])), .q .n (2 * z.U.length), .q .n (2 * z.U.length + 1), .o (.list (kL l ++ [.obj (.n (2 * m + 1))]))]) (by kernel_rfl) C)
  · exact fin (x := ⟨[], [], []⟩) (run_call OK (b := 0) (j := 20) (hs' := []) (loc' := []) (hs := [.l (gStk S) (.obj (.n (2 * t + 1))), .o (ndO t nd), .p .d, .o (.list (kL l ++ [.obj (.n (2 * m + 1))])), .o (.list []), .t, .o (.list (kL l ++ [.obj (.n (2 * m + 1))])), .l (kL l) (.obj (.n (2 * m + 1))), .o (ndO m ⟨"comment", sp, nm, tx, par, kids⟩), .a, .a, .t,
      .o (.list (kL l ++ [.obj (.n (2 * m + 1))])), .q .n (2 * z.U.length), .q .n (2 * z.U.length + 1), .o (.list (kL l ++ [.obj (.n (2 * m + 1))]))]) (by kernel_rfl) C)
theorem lp_textA (hS : z.S = t :: S) (e : z.U[t]? = some nd) (h1 : nd.kids = l ++ [m]) (e' : z.U[m]? = some nd') (hk' : nd'.kind = "text") (hl : nd'.text.length + s.length ≤ 1000000) :
    ClOK K 20 1109 [.obj (.c 1), .str "text", .str s] (rA c0 c2 z d) .none (rA c0 c2 {z with U := z.U.modify m fun q => {q with text := q.text ++ s}} (d ++ [.list []])) := by
  have hk : (gRN z.U)[2 * t]? = some (.list (kL l ++ [.obj (.n (2 * m + 1))])) := by rw [gRN_kid e]; unfold kidO; rw [h1]; simp
  have A := gRN_text (s := s) e'
  have hne : (!((kL l ++ [GV.obj (.n (2 * m + 1))]).isEmpty)) = true := by cases l <;> rfl
  have g' := gRN_nd e'
  obtain ⟨kd, sp, nm, tx, par, kids⟩ := nd'
  have hk' : kd = "text" := hk'
  subst hk'
  have R := run_call OK (b := 0) (j := 20) (f := 1109) (ga := [.obj (.c 1), .str "text", .str s]) (ah := rA c0 c2 z d) (g := .none) (hs' := []) (loc' := []) (ah' := ⟨[c0, .list (gStk z.S), c2], d ++ [.list []], (gRN z.U).set (2 * m + 1) (ndO m ⟨"text", sp, nm, tx ++ s, par, kids⟩)⟩)
    (hs := [.l (gStk S) (.obj (.n (2 * t + 1))), .o (ndO t nd), .p .d, .o (.list (kL l ++ [.obj (.n (2 * m + 1))])), .o (.list []), .t] ++ [.o (.list (kL l ++ [.obj (.n (2 * m + 1))])), .l (kL l) (.obj (.n (2 * m + 1))), .o (ndO m ⟨"text", sp, nm, tx, par, kids⟩)] ++ [.o (.list (kL l ++ [.obj (.n (2 * m + 1))])), .l (kL l) (.obj (.n (2 * m + 1))), .o (ndO m ⟨"text", sp, nm, tx, par, kids⟩)] ++ [.o (.list (kL l ++ [.obj (.n (2 * m + 1))])), .l (kL l) (.obj (.n (2 * m + 1))), .o (ndO m ⟨"text", sp, nm, tx, par, kids⟩)])
    (c := [gStk z.S = gStk S ++ [.obj (.n (2 * t + 1))], (gRN z.U)[2 * t + 1]? = some (ndO t nd), (gRN z.U)[2 * t]? = some (.list (kL l ++ [.obj (.n (2 * m + 1))])), (d ++ [AO.list []])[d.length]? = some (.list []), (!((kL l ++ [GV.obj (.n (2 * m + 1))]).isEmpty)) = true,
      (gRN z.U)[2 * t]? = some (.list (kL l ++ [.obj (.n (2 * m + 1))])), kL l ++ [GV.obj (.n (2 * m + 1))] = kL l ++ [GV.obj (.n (2 * m + 1))], (gRN z.U)[2 * m + 1]? = some (ndO m ⟨"text", sp, nm, tx, par, kids⟩), (gRN z.U)[2 * t]? = some (.list (kL l ++ [.obj (.n (2 * m + 1))])), kL l ++ [GV.obj (.n (2 * m + 1))] = kL l ++ [GV.obj (.n (2 * m + 1))], (gRN z.U)[2 * m + 1]? = some (ndO m ⟨"text", sp, nm, tx, par, kids⟩), tx.length + s.length ≤ 1000000,
      (gRN z.U)[2 * t]? = some (.list (kL l ++ [.obj (.n (2 * m + 1))])), kL l ++ [GV.obj (.n (2 * m + 1))] = kL l ++ [GV.obj (.n (2 * m + 1))], (gRN z.U)[2 * m + 1]? = some (ndO m ⟨"text", sp, nm, tx, par, kids⟩), 3 < 5]) (by kernel_rfl)
    ⟨by rw [hS, gStk_cons], gRN_nd e, hk, get_len _ _, hne, hk, rfl, g', hk, rfl, g', hl, hk, rfl, g', by decide, trivial⟩
  rw [A] at R
  exact R
theorem lp_com (hS : z.S = t :: S) (e : z.U[t]? = some nd) (hs : (s != "") = true) (hl : nd.kids.length < 900000) :
    ClOK K 20 1109 [.obj (.c 1), .str "comment", .str s] (rA c0 c2 z d) .none (rA c0 c2 {z with U := addNd z.U t ⟨"comment", "", "", s, t + 1, []⟩} d) := by
  have hk : (gRN z.U)[2 * t]? = some (.list (kL nd.kids)) := gRN_kid e
  have A := gRN_add (nd' := ⟨"comment", "", "", s, t + 1, []⟩) e rfl
  have R := run_call OK (b := 0) (j := 20) (f := 1109) (ga := [.obj (.c 1), .str "comment", .str s]) (ah := rA c0 c2 z d) (g := .none) (hs' := []) (loc' := []) (ah' := ⟨[c0, .list (gStk z.S), c2], d, ((gRN z.U ++ [AO.list []]) ++ [ndO z.U.length ⟨"comment", "", "", s, t + 1, []⟩]).set (2 * t) (AO.list (kL nd.kids ++ [GV.obj (.n (2 * z.U.length + 1))]))⟩)
    (hs := [.l (gStk S) (.obj (.n (2 * t + 1))), .o (ndO t nd), .a, .a, .t, .o (.list (kL nd.kids)), .q .n (2 * z.U.length), .q .n (2 * z.U.length + 1), .o (.list (kL nd.kids))])
    (c := [gStk z.S = gStk S ++ [.obj (.n (2 * t + 1))], (gRN z.U)[2 * t + 1]? = some (ndO t nd), (s != "") = true, (gRN z.U)[2 * t]? = some (.list (kL nd.kids)),
      Rf.n (gRN z.U).length = Rf.n (2 * z.U.length), Rf.n (gRN z.U ++ [AO.list []]).length = Rf.n (2 * z.U.length + 1), ((gRN z.U ++ [AO.list []]) ++ [ndO z.U.length ⟨"comment", "", "", s, t + 1, []⟩])[2 * t]? = some (.list (kL nd.kids)), (kL nd.kids).length < 1000000]) (by kernel_rfl)
    ⟨by rw [hS, gStk_cons], gRN_nd e, hs, hk, by rw [gRN_len], by simp [gRN_len], get_app (get_app hk _) _, by simp; omega, trivial⟩
  rw [A] at R
  exact R
theorem lp_empty (hS : z.S = t :: S) (e : z.U[t]? = some nd) (h1 : nd.kids = l ++ [m]) (e' : z.U[m]? = some nd') (hk' : nd'.kind = "comment") :
    ClOK K 20 1109 [.obj (.c 1), .str "text", .str ""] (rA c0 c2 z d) .none (rA c0 c2 z (d ++ [.list []])) := by
  have hk : (gRN z.U)[2 * t]? = some (.list (kL l ++ [.obj (.n (2 * m + 1))])) := by rw [gRN_kid e]; unfold kidO; rw [h1]; simp
  have hne : (!((kL l ++ [GV.obj (.n (2 * m + 1))]).isEmpty)) = true := by cases l <;> rfl
  have g' := gRN_nd e'
  obtain ⟨kd, sp, nm, tx, par, kids⟩ := nd'
  have hk' : kd = "comment" := hk'
  subst hk'
  exact run_call OK (b := 0) (j := 20) (hs' := []) (loc' := [])
    (hs := [.l (gStk S) (.obj (.n (2 * t + 1))), .o (ndO t nd), .p .d, .o (.list (kL l ++ [.obj (.n (2 * m + 1))])), .o (.list []), .t] ++ [.o (.list (kL l ++ [.obj (.n (2 * m + 1))])), .l (kL l) (.obj (.n (2 * m + 1))), .o (ndO m ⟨"comment", sp, nm, tx, par, kids⟩)])
    (c := [gStk z.S = gStk S ++ [.obj (.n (2 * t + 1))], (gRN z.U)[2 * t + 1]? = some (ndO t nd), (gRN z.U)[2 * t]? = some (.list (kL l ++ [.obj (.n (2 * m + 1))])), (d ++ [AO.list []])[d.length]? = some (.list []), (!((kL l ++ [GV.obj (.n (2 * m + 1))]).isEmpty)) = true,
      (gRN z.U)[2 * t]? = some (.list (kL l ++ [.obj (.n (2 * m + 1))])), kL l ++ [GV.obj (.n (2 * m + 1))] = kL l ++ [GV.obj (.n (2 * m + 1))], (gRN z.U)[2 * m + 1]? = some (ndO m ⟨"comment", sp, nm, tx, par, kids⟩)]) (by kernel_rfl)
    ⟨by rw [hS, gStk_cons], gRN_nd e, hk, get_len _ _, hne, hk, rfl, g', trivial⟩
end
end Mine
end

section
set_option maxRecDepth 100000
set_option autoImplicit false
set_option tactic.hygienic false
namespace Mine
open PySem PySem.W PySem.Calls PyProof.Rows
noncomputable def opF : FI := fiOf (topAt 87) []
noncomputable def opW : Stmt := stAt opF.body 0
noncomputable abbrev opL : Loc := [("stack", .obj (.c 1)), ("name", .str "b")]
section
variable {K : Frag} (OK : PrOK K PP) {c0 c2 : AO} {k : Nat} {d : List AO} {t u : Nat} {U : List Nd} {S S' : List Nat} {nd nd' : Nd} {sp nm : Str} {r : Bool}
include OK
theorem lo_pops {r0 : Nd} (h0 : U[0]? = some r0) (h0s : r0.space = "html") : ∀ S : List Nat, (∀ i ∈ S, ∃ nd : Nd, U[i]? = some nd ∧ (nd.space = "html" ∨ nd.space = "svg")) → S.getLast? = some 0 →
    ∃ (u : Nat) (S' : List Nat) (nd : Nd), (S.dropWhile fun i => (at_ U i).space == "svg") = u :: S' ∧ U[u]? = some nd ∧ nd.space = "html" ∧ S'.length < S.length ∧
      WhOK K 20 opF.scope (whT opW) (whB opW) opL ⟨[c0, .list (gStk S), c2], d, gRN U⟩ .nxt opL ⟨[c0, .list (gStk (u :: S')), c2], d, gRN U⟩
  | [], _, h => by cases h
  | i :: S, hS, hl => by
    obtain ⟨nd, e, he⟩ := hS i (.head _)
    have eg := gRN_nd e
    by_cases hs : nd.space = "html"
    · refine ⟨i, S, nd, ?_, e, hs, by simp, ?_⟩
      · rw [List.dropWhile_cons, at_eq e, hs]; rfl
      · obtain ⟨kd, sp, nm, tx, par, kids⟩ := nd
        have hs : sp = "html" := hs
        subst hs
        exact .done (run_ts OK (b := 0) (j := 20) (hs := [.l (gStk S) (.obj (.n (2 * i + 1))), .o (ndO i ⟨kd, "html", nm, tx, par, kids⟩)]) (c := [gStk (i :: S) = gStk S ++ [.obj (.n (2 * i + 1))], (gRN U)[2 * i + 1]? = some (ndO i ⟨kd, "html", nm, tx, par, kids⟩)]) (hs' := []) (loc' := opL) (by kernel_rfl) ⟨gStk_cons i S, eg, trivial⟩)
    · have hv : nd.space = "svg" := he.resolve_left hs
      cases S with
      | nil =>
        have : i = 0 := by simpa using hl
        subst this
        rw [h0] at e; cases e; exact absurd h0s hs
      | cons j S =>
        obtain ⟨u, S', nd', a, b, c, g, W⟩ := lo_pops h0 h0s (j :: S) (fun i hi => hS i (.tail _ hi)) (by rw [List.getLast?_cons_cons] at hl; exact hl)
        refine ⟨u, S', nd', ?_, b, c, by simp at g ⊢; omega, ?_⟩
        · rw [List.dropWhile_cons, at_eq e, hv]; exact a
        · obtain ⟨kd, sp, nm, tx, par, kids⟩ := nd
          have hv : sp = "svg" := hv
          subst hv
          have h1 : TsOK K 20 opF.scope (whT opW) opL ⟨[c0, .list (gStk (i :: j :: S)), c2], d, gRN U⟩ true ⟨[c0, .list (gStk (i :: j :: S)), c2], d, gRN U⟩ :=
            run_ts OK (b := 0) (j := 20) (hs := [.l (gStk (j :: S)) (.obj (.n (2 * i + 1))), .o (ndO i ⟨kd, "svg", nm, tx, par, kids⟩)]) (c := [gStk (i :: j :: S) = gStk (j :: S) ++ [.obj (.n (2 * i + 1))], (gRN U)[2 * i + 1]? = some (ndO i ⟨kd, "svg", nm, tx, par, kids⟩)]) (hs' := []) (loc' := opL) (by kernel_rfl) ⟨gStk_cons i _, eg, trivial⟩
          have h2 : ExOK K 20 opF.scope (whB opW) opL ⟨[c0, .list (gStk (i :: j :: S)), c2], d, gRN U⟩ .nxt opL ⟨[c0, .list (gStk (j :: S)), c2], d, gRN U⟩ :=
            run_ex OK (b := 0) (j := 20) (hs := [.l (gStk (j :: S)) (.obj (.n (2 * i + 1)))]) (c := [gStk (i :: j :: S) = gStk (j :: S) ++ [.obj (.n (2 * i + 1))]]) (hs' := []) (by kernel_rfl) ⟨gStk_cons i _, trivial⟩
          exact .nxt h1 h2 W
/-- what is opened, when the stack is right -/
theorem lo_in (e : U[t]? = some nd) (hsp : nd.space = sp) (hl : nd.kids.length < 900000) (hS : S.length < 900000)
    (hc : (nm = "s" ∧ (sp = "html" ∨ sp = "svg")) ∨ (nm = "t" ∧ (sp = "html" ∨ sp = "svg"))) :
    ClOK K 20 1116 [.obj (.c 1), .str nm] (rA c0 c2 ⟨U, t :: S, r, false, false⟩ d) (.bool (nm == "t" && sp == "html")) (rA c0 c2 (Z.open_ ⟨U, t :: S, r, false, false⟩ (bif sp == "svg" || nm == "s" then "svg" else "html") nm) d) := by
  have eg := gRN_nd e
  have hk : (gRN U)[2 * t]? = some (.list (kL nd.kids)) := gRN_kid e
  have A : ∀ x y : Str, ((gRN U ++ [AO.list []]) ++ [ndO U.length ⟨"element", x, y, "", t + 1, []⟩]).set (2 * t) (AO.list (kL nd.kids ++ [GV.obj (.n (2 * U.length + 1))])) = gRN (addNd U t ⟨"element", x, y, "", t + 1, []⟩) := fun x y => gRN_add (nd' := ⟨"element", x, y, "", t + 1, []⟩) e rfl
  obtain ⟨kd, sp', nm', tx, par, kids⟩ := nd
  have hsp : sp' = sp := hsp
  subst hsp
  have go : ∀ (x y : Str) (g : GV) (hs : List H) , ClOK K 20 1116 [.obj (.c 1), .str y] (rA c0 c2 ⟨U, t :: S, r, false, false⟩ d) g ⟨[c0, .list (gStk (t :: S) ++ [GV.obj (.n (2 * U.length + 1))]), c2], d, ((gRN U ++ [AO.list []]) ++ [ndO U.length ⟨"element", x, y, "", t + 1, []⟩]).set (2 * t) (AO.list (kL kids ++ [GV.obj (.n (2 * U.length + 1))]))⟩ →
      ClOK K 20 1116 [.obj (.c 1), .str y] (rA c0 c2 ⟨U, t :: S, r, false, false⟩ d) g (rA c0 c2 (Z.open_ ⟨U, t :: S, r, false, false⟩ x y) d) := fun x y g _ R => by
    rw [A, ← gStk_cons] at R; exact R
  have C : ∀ (x y s : Str), (gRN U)[2 * t + 1]? = some (ndO t ⟨kd, s, nm', tx, par, kids⟩) → Ands [gStk (t :: S) = gStk S ++ [.obj (.n (2 * t + 1))], (gRN U)[2 * t + 1]? = some (ndO t ⟨kd, s, nm', tx, par, kids⟩), Rf.n (gRN U).length = Rf.n (2 * U.length), Rf.n (gRN U ++ [AO.list []]).length = Rf.n (2 * U.length + 1),
      gStk (t :: S) = gStk S ++ [.obj (.n (2 * t + 1))], ((gRN U ++ [AO.list []]) ++ [ndO U.length ⟨"element", x, y, "", t + 1, []⟩])[2 * t + 1]? = some (ndO t ⟨kd, s, nm', tx, par, kids⟩),
      ((gRN U ++ [AO.list []]) ++ [ndO U.length ⟨"element", x, y, "", t + 1, []⟩])[2 * t]? = some (.list (kL kids)), ((gRN U ++ [AO.list []]) ++ [ndO U.length ⟨"element", x, y, "", t + 1, []⟩])[2 * t]? = some (.list (kL kids)), (kL kids).length < 1000000, (gStk (t :: S)).length < 1000000] := fun x y s eg =>
    ⟨gStk_cons _ _, eg, by rw [gRN_len], by simp [gRN_len], gStk_cons _ _, get_app (get_app eg _) _, get_app (get_app hk _) _, get_app (get_app hk _) _, by simp at hl ⊢; omega, by simp [gStk]; omega, trivial⟩
  rcases hc with ⟨rfl, rfl | rfl⟩ | ⟨rfl, rfl | rfl⟩
  · exact go "svg" "s" _ [] (run_call OK (b := 0) (j := 20) (hs' := []) (loc' := []) (hs := [.l (gStk S) (.obj (.n (2 * t + 1))), .o (ndO t ⟨kd, "html", nm', tx, par, kids⟩), .a, .a, .q .n (2 * U.length), .q .n (2 * U.length + 1), .l (gStk S) (.obj (.n (2 * t + 1))), .o (ndO t ⟨kd, "html", nm', tx, par, kids⟩), .o (.list (kL kids)), .o (.list (kL kids))]) (by kernel_rfl) (C "svg" "s" "html" eg))
  · exact go "svg" "s" _ [] (run_call OK (b := 0) (j := 20) (hs' := []) (loc' := []) (hs := [.l (gStk S) (.obj (.n (2 * t + 1))), .o (ndO t ⟨kd, "svg", nm', tx, par, kids⟩), .a, .q .n (2 * U.length), .q .n (2 * U.length + 1), .l (gStk S) (.obj (.n (2 * t + 1))), .o (ndO t ⟨kd, "svg", nm', tx, par, kids⟩), .o (.list (kL kids)), .o (.list (kL kids))]) (by kernel_rfl) (C "svg" "s" "svg" eg))
  · exact go "html" "t" _ [] (run_call OK (b := 0) (j := 20) (hs' := []) (loc' := []) (hs := [.l (gStk S) (.obj (.n (2 * t + 1))), .o (ndO t ⟨kd, "html", nm', tx, par, kids⟩), .a, .a, .q .n (2 * U.length), .q .n (2 * U.length + 1), .l (gStk S) (.obj (.n (2 * t + 1))), .o (ndO t ⟨kd, "html", nm', tx, par, kids⟩), .o (.list (kL kids)), .o (.list (kL kids))]) (by kernel_rfl) (C "html" "t" "html" eg))
  · exact go "svg" "t" _ [] (run_call OK (b := 0) (j := 20) (hs' := []) (loc' := []) (hs := [.l (gStk S) (.obj (.n (2 * t + 1))), .o (ndO t ⟨kd, "svg", nm', tx, par, kids⟩), .a, .q .n (2 * U.length), .q .n (2 * U.length + 1), .l (gStk S) (.obj (.n (2 * t + 1))), .o (ndO t ⟨kd, "svg", nm', tx, par, kids⟩), .o (.list (kL kids)), .o (.list (kL kids))]) (by kernel_rfl) (C "svg" "t" "svg" eg))
end
end Mine
end

section
set_option maxRecDepth 100000
set_option autoImplicit false
set_option linter.unusedVariables false
set_option tactic.hygienic false
namespace Mine
open PySem PySem.W PySem.Calls PyProof.Rows PySem.Builtin PySem.Builtin.Str
section
variable {K : Frag} {n : Nat} {sc : Scope} {loc : Loc} {ah : AH} {x y : Str} {i j : Int}
theorem EvOK.slice_ss {e a b : Expr} {p pos : Pos} (hx : EvOK K n sc e loc ah (.str x) ah) (ha : EvOK K n sc a loc ah (.int i) ah) (hb : EvOK K n sc b loc ah (.int j) ah) (hsz : x.length ≤ sizeLine) (ht : ∀ o r, letTemporaryGo e o r = Pure.pure ()) :
    EvOK K n sc (.Subscript e (.Slice (some a) (some b) none p) pos) loc ah (.str (Txt.slice x (some i) (some j))) ah := by
  intro prog w A E s h₀ env φ N m Q C I k
  refine Subscript_Slice (hx C I fun φ1 N1 v h1 tk1 I1 X1 hv => ?_) ht
  obtain ⟨t, rfl⟩ := V.str_inv hv
  refine wpAny_Slice (evalPart_some_step (ha (s := ⟨h1, s.gens, s.drawn, tk1, s.os⟩) C I1 fun φ2 N2 v2 h2 tk2 I2 X2 hv2 => evalPart_some_step (hb (s := ⟨h2, s.gens, s.drawn, tk2, s.os⟩) C I2 fun φ3 N3 v3 h3 tk3 I3 X3 hv3 => evalPart_none_step ?_)))
  obtain ⟨ti, rfl⟩ := V.int_inv hv2
  obtain ⟨tj, rfl⟩ := V.int_inv hv3
  exact SBH.sliceItem_ss (s := ⟨h3, s.gens, s.drawn, tk3, s.os⟩) keptFrN ⟨I3.fr, I3.nw⟩ (fun h' t' k' a => k φ3 N3 _ h' k' ⟨a.1, a.2, I3.hr, I3.lc⟩ ((X1.trans X2).trans X3) ⟨_, rfl⟩) hsz
theorem EvOK.slice_sn {e a : Expr} {p pos : Pos} (hx : EvOK K n sc e loc ah (.str x) ah) (ha : EvOK K n sc a loc ah (.int i) ah) (hsz : x.length ≤ sizeLine) (ht : ∀ o r, letTemporaryGo e o r = Pure.pure ()) :
    EvOK K n sc (.Subscript e (.Slice (some a) none none p) pos) loc ah (.str (Txt.slice x (some i) none)) ah := by
  intro prog w A E s h₀ env φ N m Q C I k
  refine Subscript_Slice (hx C I fun φ1 N1 v h1 tk1 I1 X1 hv => ?_) ht
  obtain ⟨t, rfl⟩ := V.str_inv hv
  refine wpAny_Slice (evalPart_some_step (ha (s := ⟨h1, s.gens, s.drawn, tk1, s.os⟩) C I1 fun φ2 N2 v2 h2 tk2 I2 X2 hv2 => evalPart_none_step (evalPart_none_step ?_)))
  obtain ⟨ti, rfl⟩ := V.int_inv hv2
  exact SBH.sliceItem_sn (s := ⟨h2, s.gens, s.drawn, tk2, s.os⟩) keptFrN ⟨I2.fr, I2.nw⟩ (fun h' t' k' a => k φ2 N2 _ h' k' ⟨a.1, a.2, I2.hr, I2.lc⟩ (X1.trans X2) ⟨_, rfl⟩) hsz
theorem EvOK.slice_ns {e b : Expr} {p pos : Pos} (hx : EvOK K n sc e loc ah (.str x) ah) (hb : EvOK K n sc b loc ah (.int j) ah) (hsz : x.length ≤ sizeLine) (ht : ∀ o r, letTemporaryGo e o r = Pure.pure ()) :
    EvOK K n sc (.Subscript e (.Slice none (some b) none p) pos) loc ah (.str (Txt.slice x none (some j))) ah := by
  intro prog w A E s h₀ env φ N m Q C I k
  refine Subscript_Slice (hx C I fun φ1 N1 v h1 tk1 I1 X1 hv => ?_) ht
  obtain ⟨t, rfl⟩ := V.str_inv hv
  refine wpAny_Slice (evalPart_none_step (hb (s := ⟨h1, s.gens, s.drawn, tk1, s.os⟩) C I1 fun φ3 N3 v3 h3 tk3 I3 X3 hv3 => evalPart_none_step ?_))
  obtain ⟨tj, rfl⟩ := V.int_inv hv3
  exact SBH.sliceItem_ns (s := ⟨h3, s.gens, s.drawn, tk3, s.os⟩) keptFrN ⟨I3.fr, I3.nw⟩ (fun h' t' k' a => k φ3 N3 _ h' k' ⟨a.1, a.2, I3.hr, I3.lc⟩ (X1.trans X3) ⟨_, rfl⟩) hsz
theorem EvOK.lower {e : Expr} {apos pos : Pos} (hx : EvOK K n sc e loc ah (.str x) ah) (hbase : ∀ env, attributeBase e "lower" env (eval e env) = eval e env) (hline : (apos.endLine == pos.line) = true) (hfit : tooLong (Txt.lower x).length = false) :
    EvOK K n sc (.Call (.Attribute e "lower" apos) [] [] pos) loc ah (.str (Txt.lower x)) ah := by
  intro prog w A E s h₀ env φ N m Q C I k
  refine Call_method0 (hbase env) hline (hx C I fun φ1 N1 v h1 tk1 I1 X1 hv => ?_)
  obtain ⟨t, rfl⟩ := V.str_inv hv
  exact SB.lower hfit (k φ1 N1 _ h1 _ I1 X1 ⟨_, rfl⟩)
theorem EvOK.strip {e a : Expr} {apos pos : Pos} (hx : EvOK K n sc e loc ah (.str x) ah) (ha : EvOK K n sc a loc ah (.str y) ah) (hbase : ∀ env, attributeBase e "strip" env (eval e env) = eval e env) (hs : ∀ env, starEach [a] env = [(false, eval a env)]) (hline : (apos.endLine == pos.line) = true) (hsz : x.length ≤ sizeLine) :
    EvOK K n sc (.Call (.Attribute e "strip" apos) [a] [] pos) loc ah (.str (Txt.stripChars x y)) ah := by
  intro prog w A E s h₀ env φ N m Q C I k
  refine Call_method1 (hbase env) (hs env) hline (hx C I fun φ1 N1 v h1 tk1 I1 X1 hv => ?_)
  obtain ⟨t, rfl⟩ := V.str_inv hv
  exact SB.stripChars (ha (s := ⟨h1, s.gens, s.drawn, tk1, s.os⟩) C I1 fun φ2 N2 v2 h2 tk2 I2 X2 hv2 => by
    obtain ⟨u, rfl⟩ := V.str_inv hv2
    exact ⟨y, u, rfl, fun t' k' => k φ2 N2 _ h2 _ I2 (X1.trans X2) ⟨_, rfl⟩⟩) hsz
theorem EvOK.index {e a : Expr} {apos pos : Pos} {i : Nat} {rest : List Nat} (hx : EvOK K n sc e loc ah (.str x) ah) (ha : EvOK K n sc a loc ah (.str y) ah) (hbase : ∀ env, attributeBase e "index" env (eval e env) = eval e env) (hs : ∀ env, starEach [a] env = [(false, eval a env)]) (hline : (apos.endLine == pos.line) = true) (ho : occurrences x y 0 x.length 1 = i :: rest) :
    EvOK K n sc (.Call (.Attribute e "index" apos) [a] [] pos) loc ah (.int i) ah := by
  intro prog w A E s h₀ env φ N m Q C I k
  refine Call_method1 (hbase env) (hs env) hline (hx C I fun φ1 N1 v h1 tk1 I1 X1 hv => ?_)
  obtain ⟨t, rfl⟩ := V.str_inv hv
  exact SB.index (ha (s := ⟨h1, s.gens, s.drawn, tk1, s.os⟩) C I1 fun φ2 N2 v2 h2 tk2 I2 X2 hv2 => by
    obtain ⟨u, rfl⟩ := V.str_inv hv2
    exact ⟨y, u, rfl, i, rest, ho, k φ2 N2 _ h2 _ I2 (X1.trans X2) ⟨_, rfl⟩⟩)
end
end Mine
end

section
set_option maxRecDepth 100000
set_option autoImplicit false
set_option tactic.hygienic false
namespace Mine
open PySem PySem.W PySem.Calls PyProof.Rows
section
variable {K : Frag} (OK : PrOK K PP) {c0 c2 : AO} {z : Z} {k : Nat} {d : List AO} {nm s : Str}
include OK
theorem open_ok (W : WF z k) (hk : k < 800000) (hr : z.raw = false) (hnm : nm = "b" ∨ nm = "s" ∨ nm = "t") :
    ClOK K 40 1116 [.obj (.c 1), .str nm] (rA c0 c2 z d) (.bool (z.feed (.start nm)).raw) (rA c0 c2 (z.feed (.start nm)) d) := by
  obtain ⟨t, S, nd, eS, et, e⟩ := W.topIn
  obtain ⟨U, S0, raw, fin, err⟩ := z
  have eS : S0 = t :: S := eS
  have hr : raw = false := hr
  have hf : fin = false := W.fin
  have he : err = false := W.err
  subst eS hr hf he
  have e : U[t]? = some nd := e
  have zS : (t :: S).length ≤ k := W.szS
  have hSl : S.length < 900000 := by simp at zS; omega
  have hsp : nd.space = "html" ∨ nd.space = "svg" := by
    obtain ⟨nd', e', h⟩ := W.sp t (.head _)
    have e' : U[t]? = some nd' := e'
    rw [e] at e'; cases e'; exact h
  have hcur : (Z.cur ⟨U, t :: S, false, false, false⟩) = nd := at_eq e
  have isF : Z.isFor ⟨U, t :: S, false, false, false⟩ = (nd.space == "svg") := by
    show ((Z.cur ⟨U, t :: S, false, false, false⟩).space == "svg") = _
    rw [hcur]
  have feedE : Z.feed ⟨U, t :: S, false, false, false⟩ (.start nm) = bif (Z.isFor ⟨U, t :: S, false, false, false⟩) && !(nm == "b") then (Z.open_ ⟨U, t :: S, false, false, false⟩ "svg" nm) else bif nm == "t" then {Z.open_ ⟨U, t :: S, false, false, false⟩ "html" "t" with raw := true} else (Z.out ⟨U, t :: S, false, false, false⟩).open_ (bif nm == "s" then "svg" else "html") nm := rfl
  have zT : nd.kids.length < 900000 := by have := (W.szT _ _ e).2; omega
  by_cases hb : nm = "b"
  · subst hb
    obtain ⟨r0, h0, h0s⟩ := W.r0
    obtain ⟨u, S', ndu, a1, a2, a3, a4, a5⟩ := lo_pops OK (c0 := c0) (c2 := c2) (d := d) h0 h0s (t :: S) W.sp W.root
    have hout : Z.out ⟨U, t :: S, false, false, false⟩ = ⟨U, u :: S', false, false, false⟩ := by
      show Z.mk U ((t :: S).dropWhile fun i => (at_ U i).space == "svg") false false false = _
      rw [a1]
    have F : Z.feed ⟨U, t :: S, false, false, false⟩ (.start "b") = Z.open_ ⟨U, u :: S', false, false, false⟩ "html" "b" := by
      rw [feedE, show (!(("b" : Str) == "b")) = false from rfl, Bool.and_false, hout]; rfl
    rw [F]
    have St : StOK K 20 opF.scope (.While (whT opW) (whB opW) [] (stPos opW)) opL ⟨[c0, .list (gStk (t :: S)), c2], d, gRN U⟩ .nxt opL ⟨[c0, .list (gStk (u :: S')), c2], d, gRN U⟩ := WhOK.stmt a5
    have hku : (gRN U)[2 * u]? = some (.list (kL ndu.kids)) := gRN_kid a2
    have eg := gRN_nd a2
    have zu : ndu.kids.length < 900000 := by have := (W.szT _ _ a2).2; omega
    have hul : (gStk (u :: S')).length < 1000000 := by simp [gStk]; simp at a4; omega
    have A : ((gRN U ++ [AO.list []]) ++ [ndO U.length ⟨"element", "html", "b", "", u + 1, []⟩]).set (2 * u) (AO.list (kL ndu.kids ++ [GV.obj (.n (2 * U.length + 1))])) = gRN (addNd U u ⟨"element", "html", "b", "", u + 1, []⟩) := gRN_add (nd' := ⟨"element", "html", "b", "", u + 1, []⟩) a2 rfl
    obtain ⟨kd, sp', nm', tx, par, kids⟩ := ndu
    have a3 : sp' = "html" := a3
    subst a3
    have R := run_call OK (b := 20) (j := 20) (f := 1116) (ga := [.obj (.c 1), .str "b"]) (ah := rA c0 c2 ⟨U, t :: S, false, false, false⟩ d) (g := .bool false) (hs' := []) (loc' := [])
      (ah' := ⟨[c0, .list (gStk (u :: S') ++ [GV.obj (.n (2 * U.length + 1))]), c2], d, ((gRN U ++ [AO.list []]) ++ [ndO U.length ⟨"element", "html", "b", "", u + 1, []⟩]).set (2 * u) (AO.list (kL kids ++ [GV.obj (.n (2 * U.length + 1))]))⟩)
      (hs := [.w .nxt opL ⟨[c0, .list (gStk (u :: S')), c2], d, gRN U⟩, .l (gStk S') (.obj (.n (2 * u + 1))), .o (ndO u ⟨kd, "html", nm', tx, par, kids⟩), .a, .a, .q .n (2 * U.length), .q .n (2 * U.length + 1), .l (gStk S') (.obj (.n (2 * u + 1))), .o (ndO u ⟨kd, "html", nm', tx, par, kids⟩), .o (.list (kL kids)), .o (.list (kL kids))])
      (c := [StOK K 20 opF.scope (.While (whT opW) (whB opW) [] (stPos opW)) opL ⟨[c0, .list (gStk (t :: S)), c2], d, gRN U⟩ .nxt opL ⟨[c0, .list (gStk (u :: S')), c2], d, gRN U⟩,
        gStk (u :: S') = gStk S' ++ [.obj (.n (2 * u + 1))], (gRN U)[2 * u + 1]? = some (ndO u ⟨kd, "html", nm', tx, par, kids⟩), Rf.n (gRN U).length = Rf.n (2 * U.length), Rf.n (gRN U ++ [AO.list []]).length = Rf.n (2 * U.length + 1),
        gStk (u :: S') = gStk S' ++ [.obj (.n (2 * u + 1))], ((gRN U ++ [AO.list []]) ++ [ndO U.length ⟨"element", "html", "b", "", u + 1, []⟩])[2 * u + 1]? = some (ndO u ⟨kd, "html", nm', tx, par, kids⟩),
        ((gRN U ++ [AO.list []]) ++ [ndO U.length ⟨"element", "html", "b", "", u + 1, []⟩])[2 * u]? = some (.list (kL kids)), ((gRN U ++ [AO.list []]) ++ [ndO U.length ⟨"element", "html", "b", "", u + 1, []⟩])[2 * u]? = some (.list (kL kids)), (kL kids).length < 1000000, (gStk (u :: S')).length < 1000000]) (by kernel_rfl)
      ⟨St, gStk_cons _ _, eg, by rw [gRN_len], by simp [gRN_len], gStk_cons _ _, get_app (get_app eg _) _, get_app (get_app hku _) _, get_app (get_app hku _) _, by simp at zu ⊢; omega, hul, trivial⟩
    rw [A, ← gStk_cons] at R
    exact R
  · have hnb : (nm == "b") = false := beq_eq_false_iff_ne.mpr hb
    have hnm' : nm = "s" ∨ nm = "t" := hnm.resolve_left hb
    have hc : (nm = "s" ∧ (nd.space = "html" ∨ nd.space = "svg")) ∨ (nm = "t" ∧ (nd.space = "html" ∨ nd.space = "svg")) := hnm'.imp (⟨·, hsp⟩) (⟨·, hsp⟩)
    have R := ClOK.up (k := 40) (lo_in OK (c0 := c0) (c2 := c2) (d := d) (r := false) (S := S) e rfl zT hSl hc) (by decide)
    rw [feedE, isF, hnb]
    rcases hsp with h | h
    · rw [h] at R ⊢
      have hout : Z.out ⟨U, t :: S, false, false, false⟩ = ⟨U, t :: S, false, false, false⟩ := by
        show Z.mk U ((t :: S).dropWhile fun i => (at_ U i).space == "svg") false false false = _
        rw [List.dropWhile_cons, at_eq e, h]; rfl
      rw [hout]
      rcases hnm' with rfl | rfl
      · exact R
      · exact R
    · rw [h] at R ⊢
      rcases hnm' with rfl | rfl
      · exact R
      · exact R
theorem lput_ok (W : WF z k) (hk : k < 800000) (hs : (s != "") = true) (hl : s.length ≤ 100) : ClOK K 20 1109 [.obj (.c 1), .str "text", .str s] (rA c0 c2 z d) .none (rA c0 c2 (z.putS s) (d ++ [.list []])) := by
  obtain ⟨t, S, nd, eS, et, e⟩ := W.topIn
  have zT : nd.kids.length < 900000 := by have := (W.szT _ _ e).2; omega
  unfold Z.putS
  rw [et]
  rcases snoc_of nd.kids with h | ⟨r, m, h⟩
  · rw [put_none e h]; exact lp_text0 OK eS e h hs
  · have hm : m < z.U.length := (W.kid _ _ e m (by rw [h]; simp)).2
    have e' := List.getElem?_eq_getElem hm
    by_cases hx : (z.U[m]).kind = "text"
    · rw [put_text e h e' hx]
      exact lp_textA OK eS e h e' hx (by have := (W.szT _ _ e').1; omega)
    · rw [put_other e h e' (beq_eq_false_iff_ne.mpr hx)]
      refine lp_text1 OK eS e h e' ?_ hs zT
      rcases W.knd _ _ e' with ⟨a, _⟩ | a | a
      · exact .inl a
      · exact absurd a hx
      · exact .inr a
theorem lcom_ok (W : WF z k) (hk : k < 800000) (hs : (s != "") = true) : ClOK K 20 1109 [.obj (.c 1), .str "comment", .str s] (rA c0 c2 z d) .none (rA c0 c2 (z.feed (.com s)) d) := by
  obtain ⟨t, S, nd, eS, et, e⟩ := W.topIn
  have zT : nd.kids.length < 900000 := by have := (W.szT _ _ e).2; omega
  show ClOK K 20 1109 _ _ _ (rA c0 c2 {z with U := addNd z.U z.top ⟨"comment", "", "", s, z.top + 1, []⟩} d)
  rw [et]
  exact lp_com OK eS e hs zT
theorem lemp_ok {s' : Str} (W : WF z k) : ClOK K 20 1109 [.obj (.c 1), .str "text", .str ""] (rA c0 c2 (z.feed (.com s')) d) .none (rA c0 c2 (z.feed (.com s')) (d ++ [.list []])) := by
  obtain ⟨t, S, nd, eS, et, e⟩ := W.topIn
  have hS' : (z.feed (.com s')).S = t :: S := eS
  have e1 : (z.feed (.com s')).U[t]? = some {nd with kids := nd.kids ++ [z.U.length]} := by
    show (addNd z.U z.top _)[t]? = _
    rw [et, add_get_lt (get_lt e), e]
    simp
  have e2 : (z.feed (.com s')).U[z.U.length]? = some ⟨"comment", "", "", s', z.top + 1, []⟩ := add_get_eq
  exact lp_empty OK hS' e1 rfl e2 rfl
end
end Mine
end

section
set_option maxRecDepth 100000
set_option autoImplicit false
set_option tactic.hygienic false
namespace Mine
open PySem PySem.W PySem.Calls PyProof.Rows PySem.Builtin PySem.Builtin.Str
noncomputable def rdF : FI := fiOf (topAt 88) []
noncomputable def rdW : Stmt := stAt rdF.body 5
noncomputable abbrev rdL (r : Bool) (p : Nat) : Loc := [("is_raw", .bool r), ("at", .int (.ofNat p)), ("parts", .obj (.c 0)), ("stack", .obj (.c 1)), ("root", .obj (.n 1)), ("errors", .obj (.c 2))]
noncomputable def asV : Stmt → Expr
  | .Assign _ e _ => e
  | .Expr e _ => e
  | _ => .Constant .none 0 default
noncomputable def ifT : Stmt → Expr
  | .If t _ _ _ => t
  | _ => .Constant .none 0 default
noncomputable def ifB : Stmt → List Stmt
  | .If _ b _ _ => b
  | _ => []
noncomputable def eAt (l : List Expr) (k : Nat) : Expr := (l[k]?).getD (.Constant .none 0 default)
noncomputable def callA : Expr → Nat → Expr
  | .Call _ a _ _, k => eAt a k
  | _, _ => .Constant .none 0 default
noncomputable def boolE : Expr → Nat → Expr
  | .BoolOp _ a _, k => eAt a k
  | _, _ => .Constant .none 0 default
noncomputable def cmpL : Expr → Expr
  | .Compare l _ _ _ => l
  | _ => .Constant .none 0 default
noncomputable def tupE : Expr → Nat → Expr
  | .Tuple a _ _, k => eAt a k
  | _, _ => .Constant .none 0 default
noncomputable def rI (k : Nat) : Stmt := match k with
  | 0 => stAt (whB rdW) 1
  | k + 1 => stAt (ifOrelse (rI k)) 0
noncomputable def nameE : Expr := asV (stAt (whB rdW) 0)
noncomputable def sl2E : Expr := tupE (cmpL (boolE (ifT (rI 0)) 1)) 0
noncomputable def slSE : Expr := callA (asV (stAt (ifB (rI 2)) 0)) 2
noncomputable def slCE : Expr := callA (asV (stAt (ifB (rI 3)) 1)) 2
noncomputable def slTE : Expr := callA (asV (stAt (ifB (rI 3)) 2)) 2
noncomputable def nmC : Nat → Str
  | 0 => "b"
  | 1 => "b"
  | 2 => "s"
  | 3 => "s"
  | 4 => "t"
  | 5 => "t"
  | 6 => "x"
  | 7 => "![cdata[y]]"
  | 8 => "t"
  | 9 => "![cdata[]<b>]]"
  | 10 => "b"
  | _ => "yz"
noncomputable def pL (i : Nat) (r : Bool) (p : Nat) : Loc := ("part", .str (txt (partC i))) :: rdL r p
noncomputable def mL (i : Nat) (r : Bool) (p : Nat) : Loc := ("name", .str (nmC i)) :: pL i r p
noncomputable def nmS : Str := "</>"
noncomputable def callF : Expr → Expr
  | .Call f _ _ _ => f
  | _ => .Constant .none 0 default
noncomputable def callP : Expr → Pos
  | .Call _ _ _ p => p
  | _ => default
noncomputable def attO : Expr → Expr
  | .Attribute o _ _ => o
  | _ => .Constant .none 0 default
noncomputable def attP : Expr → Pos
  | .Attribute _ _ p => p
  | _ => default
noncomputable def subO : Expr → Expr
  | .Subscript o _ _ => o
  | _ => .Constant .none 0 default
noncomputable def subI : Expr → Expr
  | .Subscript _ i _ => i
  | _ => .Constant .none 0 default
noncomputable def subP : Expr → Pos
  | .Subscript _ _ p => p
  | _ => default
noncomputable def sliL : Expr → Expr
  | .Slice (some a) _ _ _ => a
  | _ => .Constant .none 0 default
noncomputable def sliU : Expr → Expr
  | .Slice _ (some a) _ _ => a
  | _ => .Constant .none 0 default
noncomputable def sliP : Expr → Pos
  | .Slice _ _ _ p => p
  | _ => default
noncomputable def binL : Expr → Expr
  | .BinOp a _ _ _ => a
  | _ => .Constant .none 0 default
/-- the judgement, boxed -/
structure EvS (K : Frag) (n : Nat) (sc : Scope) (e : Expr) (loc : Loc) (ah : AH) (g : GV) (ah' : AH) : Prop where
  go : EvOK K n sc e loc ah g ah'
section
variable {K : Frag} (OK : PrOK K PP) {ah : AH} {p : Nat} {r : Bool}
include OK
theorem name_ev : ∀ i, i < 12 → EvS K 40 rdF.scope nameE (pL i r p) ah (.str (nmC i)) ah := by
  have G : ∀ i, tooLong (Txt.lower (txt (partC i))).length = false → (Txt.lower (txt (partC i))).length ≤ sizeLine → Txt.stripChars (Txt.lower (txt (partC i))) nmS = nmC i → EvS K 40 rdF.scope nameE (pL i r p) ah (.str (nmC i)) ah := by
    intro i h1 h2 h3
    constructor
    have a : EvOK K 40 rdF.scope (attO (callF (attO (callF nameE)))) (pL i r p) ah (.str (txt (partC i))) ah := by
      intro _ _ _ _ _ _ _ _ _ _ _ C I k
      exact EvOK.up (run_ev OK (b := 0) (j := 10) (hs := []) (c := []) (hs' := []) (loc' := pL i r p) (by kernel_rfl) trivial) (by decide) C I k
    have b : EvOK K 40 rdF.scope (callA nameE 0) (pL i r p) ah (.str nmS) ah := by
      intro _ _ _ _ _ _ _ _ _ _ _ C I k
      exact EvOK.up (run_ev OK (b := 0) (j := 10) (hs := []) (c := []) (hs' := []) (loc' := pL i r p) (by kernel_rfl) trivial) (by decide) C I k
    have e1 : attO (callF nameE) = .Call (.Attribute (attO (callF (attO (callF nameE)))) "lower" (attP (callF (attO (callF nameE))))) [] [] (callP (attO (callF nameE))) := by kernel_rfl
    have e2 : nameE = .Call (.Attribute (attO (callF nameE)) "strip" (attP (callF nameE))) [callA nameE 0] [] (callP nameE) := by kernel_rfl
    have c : EvOK K 40 rdF.scope (attO (callF nameE)) (pL i r p) ah (.str (Txt.lower (txt (partC i)))) ah := by
      rw [e1]
      intro _ _ _ _ _ _ _ _ _ _ _ C I k
      exact EvOK.lower (apos := attP (callF (attO (callF nameE)))) (pos := callP (attO (callF nameE))) a (fun env => by kernel_rfl) (by decide +kernel) h1 C I k
    rw [← h3, e2]
    intro _ _ _ _ _ _ _ _ _ _ _ C I k
    exact EvOK.strip (apos := attP (callF nameE)) (pos := callP nameE) c b (fun env => by kernel_rfl) (fun env => by kernel_rfl) (by decide +kernel) h2 C I k
  intro i hi
  exact G i ((by decide +kernel : ∀ i, i < 12 → tooLong (Txt.lower (txt (partC i))).length = false) i hi) ((by decide +kernel : ∀ i, i < 12 → (Txt.lower (txt (partC i))).length ≤ sizeLine) i hi)
    (by rcases lt12 hi with rfl | rfl | rfl | rfl | rfl | rfl | rfl | rfl | rfl | rfl | rfl | rfl <;> kernel_rfl)
theorem part_ev {e : Expr} (i : Nat) (h : ((mk PP (OrS K 0) 10).ev rdF.scope e ⟨mL i r p, ah, []⟩) = some ([], .str (txt (partC i)), ⟨mL i r p, ah, []⟩)) : EvOK K 40 rdF.scope e (mL i r p) ah (.str (txt (partC i))) ah := by
  intro _ _ _ _ _ _ _ _ _ _ _ C I k
  exact EvOK.up (run_ev OK h trivial) (by decide) C I k
theorem int_ev {e : Expr} {v : Int} (i : Nat) (h : ((mk PP (OrS K 0) 10).ev rdF.scope e ⟨mL i r p, ah, []⟩) = some ([], .int v, ⟨mL i r p, ah, []⟩)) : EvOK K 40 rdF.scope e (mL i r p) ah (.int v) ah := by
  intro _ _ _ _ _ _ _ _ _ _ _ C I k
  exact EvOK.up (run_ev OK h trivial) (by decide) C I k
theorem two_ev (i : Nat) (s : Str) (h2 : (txt (partC i)).length ≤ sizeLine) (h3 : Txt.slice (txt (partC i)) none (some 2) = s) : EvOK K 40 rdF.scope sl2E (mL i r p) ah (.str s) ah := by
  have a : EvOK K 40 rdF.scope (subO sl2E) (mL i r p) ah (.str (txt (partC i))) ah := by
    intro _ _ _ _ _ _ _ _ _ _ _ C I k
    exact part_ev OK i (by kernel_rfl) C I k
  have b : EvOK K 40 rdF.scope (sliU (subI sl2E)) (mL i r p) ah (.int 2) ah := by
    intro _ _ _ _ _ _ _ _ _ _ _ C I k
    exact int_ev OK i (by kernel_rfl) C I k
  have e : sl2E = .Subscript (subO sl2E) (.Slice none (some (sliU (subI sl2E))) none (sliP (subI sl2E))) (subP sl2E) := by kernel_rfl
  rw [← h3, e]
  intro _ _ _ _ _ _ _ _ _ _ _ C I k
  exact EvOK.slice_ns a b h2 (fun _ _ => by kernel_rfl) C I k
theorem svg_ev (i : Nat) (s : Str) (h2 : (txt (partC i)).length ≤ sizeLine) (h3 : Txt.slice (txt (partC i)) (some 9) (some (-3)) = s) : EvOK K 40 rdF.scope slSE (mL i r p) ah (.str s) ah := by
  have a : EvOK K 40 rdF.scope (subO slSE) (mL i r p) ah (.str (txt (partC i))) ah := by
    intro _ _ _ _ _ _ _ _ _ _ _ C I k
    exact part_ev OK i (by kernel_rfl) C I k
  have b : EvOK K 40 rdF.scope (sliL (subI slSE)) (mL i r p) ah (.int 9) ah := by
    intro _ _ _ _ _ _ _ _ _ _ _ C I k
    exact int_ev OK i (by kernel_rfl) C I k
  have c : EvOK K 40 rdF.scope (sliU (subI slSE)) (mL i r p) ah (.int (-3)) ah := by
    intro _ _ _ _ _ _ _ _ _ _ _ C I k
    exact int_ev OK i (by kernel_rfl) C I k
  have e : slSE = .Subscript (subO slSE) (.Slice (some (sliL (subI slSE))) (some (sliU (subI slSE))) none (sliP (subI slSE))) (subP slSE) := by kernel_rfl
  rw [← h3, e]
  intro _ _ _ _ _ _ _ _ _ _ _ C I k
  exact EvOK.slice_ss a b c h2 (fun _ _ => by kernel_rfl) C I k
noncomputable def idC : Expr := sliU (subI slCE)
noncomputable def idT : Expr := binL (sliL (subI slTE))
theorem idx_ev {e : Expr} (he : e = .Call (.Attribute (attO (callF e)) "index" (attP (callF e))) [callA e 0] [] (callP e)) (i j : Nat) (ha : ((mk PP (OrS K 0) 10).ev rdF.scope (attO (callF e)) ⟨mL i r p, ah, []⟩) = some ([], .str (txt (partC i)), ⟨mL i r p, ah, []⟩))
    (hb : ((mk PP (OrS K 0) 10).ev rdF.scope (callA e 0) ⟨mL i r p, ah, []⟩) = some ([], .str ">", ⟨mL i r p, ah, []⟩)) (h1 : ∀ env, attributeBase (attO (callF e)) "index" env (eval (attO (callF e)) env) = eval (attO (callF e)) env) (h2 : ∀ env, starEach [callA e 0] env = [(false, eval (callA e 0) env)])
    (h3 : ((attP (callF e)).endLine == (callP e).line) = true) (ho : occurrences (txt (partC i)) ">" 0 (txt (partC i)).length 1 = [j]) : EvOK K 40 rdF.scope e (mL i r p) ah (.int j) ah := by
  have a : EvOK K 40 rdF.scope (attO (callF e)) (mL i r p) ah (.str (txt (partC i))) ah := by
    intro _ _ _ _ _ _ _ _ _ _ _ C I k
    exact part_ev OK i ha C I k
  have b : EvOK K 40 rdF.scope (callA e 0) (mL i r p) ah (.str ">") ah := by
    intro _ _ _ _ _ _ _ _ _ _ _ C I k
    exact EvOK.up (run_ev OK hb trivial) (by decide) C I k
  rw [he]
  intro _ _ _ _ _ _ _ _ _ _ _ C I k
  exact EvOK.index a b h1 h2 h3 ho C I k
theorem com_ev (i j : Nat) (s : Str) (ho : occurrences (txt (partC i)) ">" 0 (txt (partC i)).length 1 = [j]) (h2 : (txt (partC i)).length ≤ sizeLine) (h3 : Txt.slice (txt (partC i)) (some 2) (some (j : Int)) = s) : EvOK K 40 rdF.scope slCE (mL i r p) ah (.str s) ah := by
  have a : EvOK K 40 rdF.scope (subO slCE) (mL i r p) ah (.str (txt (partC i))) ah := by
    intro _ _ _ _ _ _ _ _ _ _ _ C I k
    exact part_ev OK i (by kernel_rfl) C I k
  have b : EvOK K 40 rdF.scope (sliL (subI slCE)) (mL i r p) ah (.int 2) ah := by
    intro _ _ _ _ _ _ _ _ _ _ _ C I k
    exact int_ev OK i (by kernel_rfl) C I k
  have c : EvOK K 40 rdF.scope idC (mL i r p) ah (.int j) ah := by
    intro _ _ _ _ _ _ _ _ _ _ _ C I k
    exact idx_ev OK (by kernel_rfl) i j (by kernel_rfl) (by kernel_rfl) (fun env => by kernel_rfl) (fun env => by kernel_rfl) (by decide +kernel) ho C I k
  have e : slCE = .Subscript (subO slCE) (.Slice (some (sliL (subI slCE))) (some idC) none (sliP (subI slCE))) (subP slCE) := by kernel_rfl
  rw [← h3, e]
  intro _ _ _ _ _ _ _ _ _ _ _ C I k
  exact EvOK.slice_ss a b c h2 (fun _ _ => by kernel_rfl) C I k
theorem rest_ev (i j : Nat) (s : Str) (ho : occurrences (txt (partC i)) ">" 0 (txt (partC i)).length 1 = [j]) (h2 : (txt (partC i)).length ≤ sizeLine) (h3 : Txt.slice (txt (partC i)) (some ((j : Int) + 1)) none = s) : EvOK K 60 rdF.scope slTE (mL i r p) ah (.str s) ah := by
  have a : EvOK K 40 rdF.scope (subO slTE) (mL i r p) ah (.str (txt (partC i))) ah := by
    intro _ _ _ _ _ _ _ _ _ _ _ C I k
    exact part_ev OK i (by kernel_rfl) C I k
  have c : EvOK K 40 rdF.scope idT (mL i r p) ah (.int j) ah := by
    intro _ _ _ _ _ _ _ _ _ _ _ C I k
    exact idx_ev OK (by kernel_rfl) i j (by kernel_rfl) (by kernel_rfl) (fun env => by kernel_rfl) (fun env => by kernel_rfl) (by decide +kernel) ho C I k
  have b : EvOK K 60 rdF.scope (sliL (subI slTE)) (mL i r p) ah (.int ((j : Int) + 1)) ah := by
    intro _ _ _ _ _ _ _ _ _ _ _ C I k
    exact run_ev OK (b := 40) (j := 20) (hs := [.e (.int j) ah]) (c := [EvOK K 40 rdF.scope idT (mL i r p) ah (.int j) ah]) (hs' := []) (loc' := mL i r p) (by kernel_rfl) ⟨c, trivial⟩ C I k
  have e : slTE = .Subscript (subO slTE) (.Slice (some (sliL (subI slTE))) none none (sliP (subI slTE))) (subP slTE) := by kernel_rfl
  rw [← h3, e]
  intro _ _ _ _ _ _ _ _ _ _ _ C I k
  exact EvOK.slice_sn (n := 60) (fun C I k => EvOK.up a (by decide) C I k) b h2 (fun _ _ => by kernel_rfl) C I k
end
end Mine
end

section
set_option maxRecDepth 100000
set_option autoImplicit false
set_option tactic.hygienic false
namespace Mine
open PySem PySem.W PySem.Calls PyProof.Rows PySem.Builtin PySem.Builtin.Str
noncomputable def s2C : Nat → Str
  | 0 => "<b"
  | 1 => "</"
  | 2 => "<s"
  | 3 => "</"
  | 4 => "<t"
  | 5 => "</"
  | 6 => "x"
  | 7 => "<!"
  | 8 => "</"
  | 9 => "<!"
  | 10 => "<B"
  | _ => "yz"
noncomputable abbrev pE (p i : Nat) : Int := .ofNat (p + (partC i).length)
noncomputable abbrev rdRun (K : Frag) (i : Nat) (r : Bool) (p : Nat) (ah : AH) (hs : List H) := (mk PP (OrS K 60) 20).ex rdF.scope (whB rdW) ⟨pL i r p, ah, hs⟩
noncomputable abbrev nmP (K : Frag) (i : Nat) (r : Bool) (p : Nat) (ah : AH) : Prop := EvOK K 60 rdF.scope nameE (pL i r p) ah (.str (nmC i)) ah
noncomputable abbrev lnP (i : Nat) : Prop := (txt (partC i)).length ≤ 1000000
noncomputable abbrev atP (p i : Nat) : Prop := Int.ofNat p + Int.ofNat (partC i).length = pE p i
theorem s2_eq (i : Nat) (hi : i < 12) : Txt.slice (txt (partC i)) none (some 2) = s2C i := by
  rcases lt12 hi with rfl | rfl | rfl | rfl | rfl | rfl | rfl | rfl | rfl | rfl | rfl | rfl <;> kernel_rfl
section
variable {K : Frag} (OK : PrOK K PP) {p k : Nat} {c0 c2 : AO} {z : Z} {d d' : List AO} {ah ah' : AH}
include OK
omit OK in
theorem len_ok (i : Nat) (hi : i < 12) : (txt (partC i)).length ≤ 20 := by
  rcases lt12 hi with rfl | rfl | rfl | rfl | rfl | rfl | rfl | rfl | rfl | rfl | rfl | rfl <;> decide +kernel
omit OK in
theorem at_ok (p i : Nat) : atP p i := rfl
theorem nm_ok (i : Nat) (hi : i < 12) (r : Bool) : EvS K 60 rdF.scope nameE (pL i r p) ah (.str (nmC i)) ah :=
  ⟨fun C I k => EvOK.up (name_ev OK (p := p) (r := r) (ah := ah) i hi).go (by decide) C I k⟩
theorem two_ok (i : Nat) (hi : i < 12) (r : Bool) : EvS K 60 rdF.scope sl2E (mL i r p) ah (.str (s2C i)) ah := by
  constructor
  intro _ _ _ _ _ _ _ _ _ _ _ C I k
  refine EvOK.up (two_ev OK (p := p) (r := r) (ah := ah) i (s2C i) ?_ ?_) (by decide) C I k
  · have := len_ok i hi
    exact Nat.le_trans this (by decide +kernel)
  · exact s2_eq i hi
noncomputable abbrev rawL (i p : Nat) : Loc := ("at", .int (pE p i)) :: mL i true p
theorem tn_raw_put (i : Nat) (hi : i < 12) (h : ClOK K 60 1109 [.obj (.c 1), .str "text", .str (txt (partC i))] ah .none ah')
    (R : rdRun K i true p ah [.e (.str (nmC i)) ah, .e (.str (s2C i)) ah, .c 1109 .none ah', .i (pE p i)] =
      some ([nmP K i true p ah, EvOK K 60 rdF.scope sl2E (mL i true p) ah (.str (s2C i)) ah, (true = true ∧ true = true), ClOK K 60 1109 [.obj (.c 1), .str "text", .str (txt (partC i))] ah .none ah', lnP i, atP p i], .nxt, ⟨rawL i p, ah', []⟩)) :
    ExOK K 80 rdF.scope (whB rdW) (pL i true p) ah .nxt (rawL i p) ah' :=
  run_ex OK R ⟨(nm_ok OK i hi true).go, (two_ok OK i hi true).go, ⟨rfl, rfl⟩, h, Nat.le_trans (len_ok i hi) (by decide), at_ok p i, trivial⟩
theorem tn_raw_puts (i : Nat) (hi : i < 12) (h5 : i ≠ 5) (h8 : i ≠ 8) (h : ClOK K 60 1109 [.obj (.c 1), .str "text", .str (txt (partC i))] ah .none ah') : ExOK K 80 rdF.scope (whB rdW) (pL i true p) ah .nxt (rawL i p) ah' := by
  intro _ _ _ _ _ _ _ _ _ _ _ C I k
  refine tn_raw_put OK i hi h ?_ C I k
  rcases lt12 hi with rfl | rfl | rfl | rfl | rfl | rfl | rfl | rfl | rfl | rfl | rfl | rfl
  all_goals first | exact absurd rfl h5 | exact absurd rfl h8 | kernel_rfl
noncomputable abbrev endL (i p : Nat) : Loc := ("at", .int (pE p i)) :: ("is_raw", .bool false) :: mL i true p
theorem tn_raw_end (i : Nat) (hi : i = 5 ∨ i = 8) {t : Nat} {S : List Nat} (hS : z.S = t :: S) : ExOK K 80 rdF.scope (whB rdW) (pL i true p) (rA c0 c2 z d) .nxt (endL i p) ⟨[c0, .list (gStk S), c2], d, gRN z.U⟩ := by
  have hl : i < 12 := by omega
  have R : rdRun K i true p (rA c0 c2 z d) [.e (.str (nmC i)) (rA c0 c2 z d), .e (.str (s2C i)) (rA c0 c2 z d), .l (gStk S) (.obj (.n (2 * t + 1))), .i (pE p i)] =
      some ([nmP K i true p (rA c0 c2 z d), EvOK K 60 rdF.scope sl2E (mL i true p) (rA c0 c2 z d) (.str (s2C i)) (rA c0 c2 z d), (true = true ∧ true = true), gStk z.S = gStk S ++ [.obj (.n (2 * t + 1))], lnP i, atP p i], .nxt, ⟨endL i p, ⟨[c0, .list (gStk S), c2], d, gRN z.U⟩, []⟩) := by
    rcases hi with rfl | rfl <;> kernel_rfl
  intro _ _ _ _ _ _ _ _ _ _ _ C I k
  exact run_ex OK R ⟨(nm_ok OK i hl true).go, (two_ok OK i hl true).go, ⟨rfl, rfl⟩, by rw [hS, gStk_cons], Nat.le_trans (len_ok i hl) (by decide), at_ok p i, trivial⟩ C I k
noncomputable abbrev atL (i p : Nat) : Loc := ("at", .int (pE p i)) :: mL i false p
theorem tn_put (i : Nat) (hi : i = 6 ∨ i = 11) (h : ClOK K 60 1109 [.obj (.c 1), .str "text", .str (txt (partC i))] ah .none ah') : ExOK K 80 rdF.scope (whB rdW) (pL i false p) ah .nxt (atL i p) ah' := by
  have hl : i < 12 := by omega
  have R : rdRun K i false p ah [.e (.str (nmC i)) ah, .c 1109 .none ah', .i (pE p i)] =
      some ([nmP K i false p ah, ClOK K 60 1109 [.obj (.c 1), .str "text", .str (txt (partC i))] ah .none ah', lnP i, atP p i], .nxt, ⟨atL i p, ah', []⟩) := by
    rcases hi with rfl | rfl <;> kernel_rfl
  intro _ _ _ _ _ _ _ _ _ _ _ C I k
  exact run_ex OK R ⟨(nm_ok OK i hl false).go, h, Nat.le_trans (len_ok i hl) (by decide), at_ok p i, trivial⟩ C I k
noncomputable def svC : Nat → List Nat
  | 7 => [121]
  | _ => [93, 60, 98, 62]
noncomputable def coC : Nat → Str
  | 7 => "[CDATA[y]]"
  | _ => "[CDATA[]<b"
noncomputable def reC : Nat → Str
  | 7 => ""
  | _ => txt [93, 93, 62]
noncomputable def gtC : Nat → Nat
  | 7 => 12
  | _ => 12
theorem tn_svg (i : Nat) (hi : i = 7 ∨ i = 9) {t : Nat} {S : List Nat} {nd : Nd} (hS : z.S = t :: S) (e : z.U[t]? = some nd) (hs : nd.space = "svg") (h : ClOK K 60 1109 [.obj (.c 1), .str "text", .str (txt (svC i))] (rA c0 c2 z d) .none ah') : ExOK K 80 rdF.scope (whB rdW) (pL i false p) (rA c0 c2 z d) .nxt (atL i p) ah' := by
  have hl : i < 12 := by omega
  have eg := gRN_nd e
  obtain ⟨kd, sp, nm, tx, par, kids⟩ := nd
  have hs : sp = "svg" := hs
  subst hs
  have R : rdRun K i false p (rA c0 c2 z d) [.e (.str (nmC i)) (rA c0 c2 z d), .l (gStk S) (.obj (.n (2 * t + 1))), .o (ndO t ⟨kd, "svg", nm, tx, par, kids⟩), .e (.str (txt (svC i))) (rA c0 c2 z d), .c 1109 .none ah', .i (pE p i)] =
      some ([nmP K i false p (rA c0 c2 z d), gStk z.S = gStk S ++ [.obj (.n (2 * t + 1))], (gRN z.U)[2 * t + 1]? = some (ndO t ⟨kd, "svg", nm, tx, par, kids⟩), EvOK K 60 rdF.scope slSE (mL i false p) (rA c0 c2 z d) (.str (txt (svC i))) (rA c0 c2 z d),
        ClOK K 60 1109 [.obj (.c 1), .str "text", .str (txt (svC i))] (rA c0 c2 z d) .none ah', lnP i, atP p i], .nxt, ⟨atL i p, ah', []⟩) := by
    rcases hi with rfl | rfl <;> kernel_rfl
  have sv : EvS K 60 rdF.scope slSE (mL i false p) (rA c0 c2 z d) (.str (txt (svC i))) (rA c0 c2 z d) := by
    constructor
    intro _ _ _ _ _ _ _ _ _ _ _ C I k
    refine EvOK.up (svg_ev OK (p := p) (r := false) (ah := rA c0 c2 z d) i (txt (svC i)) (Nat.le_trans (len_ok i hl) (by decide +kernel)) ?_) (by decide) C I k
    rcases hi with rfl | rfl <;> kernel_rfl
  intro _ _ _ _ _ _ _ _ _ _ _ C I k
  exact run_ex OK R ⟨(nm_ok OK i hl false).go, by rw [hS, gStk_cons], eg, sv.go, h, Nat.le_trans (len_ok i hl) (by decide), at_ok p i, trivial⟩ C I k
theorem tn_html (i : Nat) (hi : i = 7 ∨ i = 9) {t : Nat} {S : List Nat} {nd : Nd} {er : List Nat} {ah1 : AH} (hS : z.S = t :: S) (e : z.U[t]? = some nd) (hs : nd.space = "html") (her : er.length < 900000)
    (h1 : ClOK K 60 1109 [.obj (.c 1), .str "comment", .str (coC i)] (rA c0 (.list (gErs (er ++ [p + 8]))) z d) .none ah1) (h2 : ClOK K 60 1109 [.obj (.c 1), .str "text", .str (reC i)] ah1 .none ah') : ExOK K 80 rdF.scope (whB rdW) (pL i false p) (rA c0 (.list (gErs er)) z d) .nxt (atL i p) ah' := by
  have hl : i < 12 := by omega
  have eg := gRN_nd e
  have ee : gErs (er ++ [p + 8]) = gErs er ++ [gErr (.ofNat (p + 8))] := by simp [gErs]
  rw [ee] at h1
  obtain ⟨kd, sp, nm, tx, par, kids⟩ := nd
  have hs : sp = "html" := hs
  subst hs
  have co : EvS K 60 rdF.scope slCE (mL i false p) (rA c0 (.list (gErs er ++ [gErr (.ofNat (p + 8))])) z d) (.str (coC i)) (rA c0 (.list (gErs er ++ [gErr (.ofNat (p + 8))])) z d) := by
    constructor
    intro _ _ _ _ _ _ _ _ _ _ _ C I k
    refine EvOK.up (com_ev OK (p := p) (r := false) i (gtC i) (coC i) ?_ (Nat.le_trans (len_ok i hl) (by decide +kernel)) ?_) (by decide) C I k
    · rcases hi with rfl | rfl <;> decide +kernel
    · rcases hi with rfl | rfl <;> kernel_rfl
  have re : EvS K 60 rdF.scope slTE (mL i false p) ah1 (.str (reC i)) ah1 := by
    constructor
    intro _ _ _ _ _ _ _ _ _ _ _ C I k
    refine rest_ev OK (p := p) (r := false) i (gtC i) (reC i) ?_ (Nat.le_trans (len_ok i hl) (by decide +kernel)) ?_ C I k
    · rcases hi with rfl | rfl <;> decide +kernel
    · rcases hi with rfl | rfl <;> kernel_rfl
  have R : rdRun K i false p (rA c0 (.list (gErs er)) z d) [.e (.str (nmC i)) (rA c0 (.list (gErs er)) z d), .l (gStk S) (.obj (.n (2 * t + 1))), .o (ndO t ⟨kd, "html", nm, tx, par, kids⟩), .i (.ofNat (p + 8)), .e (.str (coC i)) (rA c0 (.list (gErs er ++ [gErr (.ofNat (p + 8))])) z d), .c 1109 .none ah1, .e (.str (reC i)) ah1, .c 1109 .none ah', .i (pE p i)] =
      some ([nmP K i false p (rA c0 (.list (gErs er)) z d), gStk z.S = gStk S ++ [.obj (.n (2 * t + 1))], (gRN z.U)[2 * t + 1]? = some (ndO t ⟨kd, "html", nm, tx, par, kids⟩), Int.ofNat p + 8 = Int.ofNat (p + 8), (gErs er).length < 1000000, EvOK K 60 rdF.scope slCE (mL i false p) (rA c0 (.list (gErs er ++ [gErr (.ofNat (p + 8))])) z d) (.str (coC i)) (rA c0 (.list (gErs er ++ [gErr (.ofNat (p + 8))])) z d),
        ClOK K 60 1109 [.obj (.c 1), .str "comment", .str (coC i)] (rA c0 (.list (gErs er ++ [gErr (.ofNat (p + 8))])) z d) .none ah1, EvOK K 60 rdF.scope slTE (mL i false p) ah1 (.str (reC i)) ah1, ClOK K 60 1109 [.obj (.c 1), .str "text", .str (reC i)] ah1 .none ah', lnP i, atP p i], .nxt, ⟨atL i p, ah', []⟩) := by
    rcases hi with rfl | rfl <;> kernel_rfl
  intro _ _ _ _ _ _ _ _ _ _ _ C I k
  exact run_ex OK R ⟨(nm_ok OK i hl false).go, by rw [hS, gStk_cons], eg, rfl, by simp [gErs]; omega, co.go, h1, re.go, h2, Nat.le_trans (len_ok i hl) (by decide), at_ok p i, trivial⟩ C I k
noncomputable abbrev opnL (i p : Nat) (b : Bool) : Loc := ("at", .int (pE p i)) :: ("is_raw", .bool b) :: mL i false p
theorem tn_open (i : Nat) (hi : i = 0 ∨ i = 2 ∨ i = 4 ∨ i = 10) {b : Bool} (h : ClOK K 60 1116 [.obj (.c 1), .str (nmC i)] ah (.bool b) ah') : ExOK K 80 rdF.scope (whB rdW) (pL i false p) ah .nxt (opnL i p b) ah' := by
  have hl : i < 12 := by omega
  have R : rdRun K i false p ah [.e (.str (nmC i)) ah, .c 1116 (.bool b) ah', .i (pE p i)] =
      some ([nmP K i false p ah, ClOK K 60 1116 [.obj (.c 1), .str (nmC i)] ah (.bool b) ah', lnP i, atP p i], .nxt, ⟨opnL i p b, ah', []⟩) := by
    rcases hi with rfl | rfl | rfl | rfl <;> kernel_rfl
  intro _ _ _ _ _ _ _ _ _ _ _ C I k
  exact run_ex OK R ⟨(nm_ok OK i hl false).go, h, Nat.le_trans (len_ok i hl) (by decide), at_ok p i, trivial⟩ C I k
theorem tn_end1 (i : Nat) (hi : i = 1 ∨ i = 3 ∨ i = 5 ∨ i = 8) (hS : z.S.length ≤ 1) : ExOK K 80 rdF.scope (whB rdW) (pL i false p) (rA c0 c2 z d) .nxt (atL i p) (rA c0 c2 z d) := by
  have hl : i < 12 := by omega
  have R : rdRun K i false p (rA c0 c2 z d) [.e (.str (nmC i)) (rA c0 c2 z d), .a, .a, .a, .a, .a, .a, .a, .a, .a, .f, .a, .i (pE p i)] =
      some ([nmP K i false p (rA c0 c2 z d), decide ((1 : Int) < Int.ofNat (gStk z.S).length) = false, lnP i, atP p i], .nxt, ⟨atL i p, rA c0 c2 z d, []⟩) := by
    rcases hi with rfl | rfl | rfl | rfl <;> kernel_rfl
  intro _ _ _ _ _ _ _ _ _ _ _ C I k
  exact run_ex OK R ⟨(nm_ok OK i hl false).go, decide_eq_false (by show ¬ (1 : Int) < ((gStk z.S).length : Int); simp [gStk]; omega), Nat.le_trans (len_ok i hl) (by decide), at_ok p i, trivial⟩ C I k
theorem tn_end2 (i : Nat) (hi : i = 1 ∨ i = 3 ∨ i = 5 ∨ i = 8) {t : Nat} {S : List Nat} {nd : Nd} (hS : z.S = t :: S) (e : z.U[t]? = some nd) (hl1 : 1 < z.S.length) (hn : (nd.name == nmC i) = false) : ExOK K 80 rdF.scope (whB rdW) (pL i false p) (rA c0 c2 z d) .nxt (atL i p) (rA c0 c2 z d) := by
  have hl : i < 12 := by omega
  have eg := gRN_nd e
  obtain ⟨kd, sp, nm, tx, par, kids⟩ := nd
  have hn : (nm == nmC i) = false := hn
  have R : rdRun K i false p (rA c0 c2 z d) [.e (.str (nmC i)) (rA c0 c2 z d), .a, .a, .a, .a, .a, .a, .a, .a, .a, .t, .l (gStk S) (.obj (.n (2 * t + 1))), .o (ndO t ⟨kd, sp, nm, tx, par, kids⟩), .f, .a, .i (pE p i)] =
      some ([nmP K i false p (rA c0 c2 z d), decide ((1 : Int) < Int.ofNat (gStk z.S).length) = true, gStk z.S = gStk S ++ [.obj (.n (2 * t + 1))], (gRN z.U)[2 * t + 1]? = some (ndO t ⟨kd, sp, nm, tx, par, kids⟩), (nm == nmC i) = false, lnP i, atP p i], .nxt, ⟨atL i p, rA c0 c2 z d, []⟩) := by
    rcases hi with rfl | rfl | rfl | rfl <;> kernel_rfl
  intro _ _ _ _ _ _ _ _ _ _ _ C I k
  exact run_ex OK R ⟨(nm_ok OK i hl false).go, decide_eq_true (by show (1 : Int) < ((gStk z.S).length : Int); simp [gStk]; omega), by rw [hS, gStk_cons], eg, hn, Nat.le_trans (len_ok i hl) (by decide), at_ok p i, trivial⟩ C I k
theorem tn_end3 (i : Nat) (hi : i = 1 ∨ i = 3 ∨ i = 5 ∨ i = 8) {t : Nat} {S : List Nat} {nd : Nd} (hS : z.S = t :: S) (e : z.U[t]? = some nd) (hl1 : 1 < z.S.length) (hn : (nd.name == nmC i) = true) : ExOK K 80 rdF.scope (whB rdW) (pL i false p) (rA c0 c2 z d) .nxt (atL i p) ⟨[c0, .list (gStk S), c2], d, gRN z.U⟩ := by
  have hl : i < 12 := by omega
  have eg := gRN_nd e
  obtain ⟨kd, sp, nm, tx, par, kids⟩ := nd
  have hn : (nm == nmC i) = true := hn
  have R : rdRun K i false p (rA c0 c2 z d) [.e (.str (nmC i)) (rA c0 c2 z d), .a, .a, .a, .a, .a, .a, .a, .a, .a, .t, .l (gStk S) (.obj (.n (2 * t + 1))), .o (ndO t ⟨kd, sp, nm, tx, par, kids⟩), .t, .a, .l (gStk S) (.obj (.n (2 * t + 1))), .i (pE p i)] =
      some ([nmP K i false p (rA c0 c2 z d), decide ((1 : Int) < Int.ofNat (gStk z.S).length) = true, gStk z.S = gStk S ++ [.obj (.n (2 * t + 1))], (gRN z.U)[2 * t + 1]? = some (ndO t ⟨kd, sp, nm, tx, par, kids⟩), (nm == nmC i) = true, gStk z.S = gStk S ++ [.obj (.n (2 * t + 1))], lnP i, atP p i], .nxt, ⟨atL i p, ⟨[c0, .list (gStk S), c2], d, gRN z.U⟩, []⟩) := by
    rcases hi with rfl | rfl | rfl | rfl <;> kernel_rfl
  intro _ _ _ _ _ _ _ _ _ _ _ C I k
  exact run_ex OK R ⟨(nm_ok OK i hl false).go, decide_eq_true (by show (1 : Int) < ((gStk z.S).length : Int); simp [gStk]; omega), by rw [hS, gStk_cons], eg, hn, by rw [hS, gStk_cons], Nat.le_trans (len_ok i hl) (by decide), at_ok p i, trivial⟩ C I k
end
end Mine
end

section
set_option maxRecDepth 100000
set_option autoImplicit false
set_option tactic.hygienic false
namespace Mine
open PySem PySem.W PySem.Calls PyProof.Rows PySem.Builtin PySem.Builtin.Str
/-- the judgement, boxed -/
structure ExS (K : Frag) (n : Nat) (sc : Scope) (ss : List Stmt) (loc : Loc) (ah : AH) (fl : Fl) (loc' : Loc) (ah' : AH) : Prop where
  go : ExOK K n sc ss loc ah fl loc' ah'
theorem len100 {i : Nat} (hi : i < 12) : (txt (partC i)).length ≤ 100 := Nat.le_trans (len_ok i hi) (by decide)
theorem WF.rd {z : Z} {k : Nat} (W : WF z k) {i : Nat} (hi : i < 12) : WF (z.rd i) (k + 200) := by
  have F : WF (z.feed (.fin "t")) (k + 200) := (W.feed (.fin "t") trivial (by intro h; cases h)).up (by omega)
  cases hr : z.raw with
  | true =>
    rw [rd_t hr]
    show WF (bif i == 5 || i == 8 then z.feed (.fin "t") else z.putS (txt (partC i))) _
    cases (i == 5 || i == 8)
    · exact (W.put _ (len100 hi)).up (Nat.add_le_add_left (by decide) _)
    · exact F
  | false =>
    rw [rd_n hr]
    have P : ∀ s : Str, s.length ≤ 100 → WF (z.putS s) (k + 200) := fun s h => (W.put s h).up (by omega)
    have N : ∀ nm : Str, WF (z.feed (.fin nm)) (k + 200) := fun nm => (W.feed (.fin nm) trivial (by intro h; cases h)).up (by omega)
    have O : ∀ nm : Str, nm = "b" ∨ nm = "s" ∨ nm = "t" → WF (z.feed (.start nm)) (k + 200) := fun nm h => (W.feed (.start nm) ⟨hr, h⟩ (by intro h; cases h)).up (by omega)
    have C : ∀ s : Str, s.length ≤ 100 → WF (z.feed (.com s)) (k + 100) := fun s h => W.feed (.com s) ⟨hr, h⟩ (by intro h; cases h)
    rcases lt12 hi with rfl | rfl | rfl | rfl | rfl | rfl | rfl | rfl | rfl | rfl | rfl | rfl
    · exact O "b" (.inl rfl)
    · exact N _
    · exact O "s" (.inr (.inl rfl))
    · exact N _
    · exact O "t" (.inr (.inr rfl))
    · exact N _
    · exact P _ (by decide +kernel)
    · show WF (bif z.isFor then z.putS (txt [121]) else z.feed (.com "[CDATA[y]]")) _
      cases z.isFor
      · exact (C _ (by decide +kernel)).up (by omega)
      · exact P _ (by decide +kernel)
    · exact N _
    · show WF (bif z.isFor then z.putS (txt [93, 60, 98, 62]) else (z.feed (.com "[CDATA[]<b")).putS (txt [93, 93, 62])) _
      cases z.isFor
      · exact (C _ (by decide +kernel)).put _ (by decide +kernel)
      · exact P _ (by decide +kernel)
    · exact O "b" (.inl rfl)
    · exact P _ (by decide +kernel)
section
variable {K : Frag} (OK : PrOK K PP) {p k : Nat} {c0 : AO} {z : Z} {d : List AO} {er : List Nat}
include OK
/-- an end tag read, no raw text -/
theorem rd_end (W : WF z k) (hr : z.raw = false) (i : Nat) (hi : i = 1 ∨ i = 3 ∨ i = 5 ∨ i = 8) {c2 : AO} : ExS K 80 rdF.scope (whB rdW) (pL i false p) (rA c0 c2 z d) .nxt (atL i p) (rA c0 c2 (z.feed (.fin (nmC i))) d) := by
  obtain ⟨t, S, nd, eS, et, e⟩ := W.topIn
  have F : z.feed (.fin (nmC i)) = bif decide (1 < z.S.length) && nd.name == nmC i then {z with S := z.S.tail} else z := by
    show (bif z.raw then _ else bif decide (1 < z.S.length) && z.cur.name == nmC i then _ else _) = _
    rw [hr]
    unfold Z.cur
    rw [et, at_eq e]
    rfl
  rw [F]
  by_cases h1 : 1 < z.S.length
  · rw [decide_eq_true h1]
    cases h2 : nd.name == nmC i with
    | true =>
      have T3 := ExS.mk (tn_end3 OK (p := p) (c0 := c0) (c2 := c2) (d := d) i hi eS e h1 h2)
      show ExS K 80 rdF.scope (whB rdW) (pL i false p) (rA c0 c2 z d) .nxt (atL i p) ⟨[c0, .list (gStk z.S.tail), c2], d, gRN z.U⟩
      rw [show z.S.tail = S by rw [eS]; rfl]
      exact T3
    | false => exact ⟨fun C I k => tn_end2 OK i hi eS e h1 h2 C I k⟩
  · rw [decide_eq_false h1]
    exact ⟨fun C I k => tn_end1 OK i hi (by omega) C I k⟩
/-- a turn of the reading -/
noncomputable def RdT (K : Frag) (c0 : AO) (p : Nat) (er : List Nat) (z : Z) (d : List AO) (i : Nat) (r : Bool) (z' : Z) (er' : List Nat) : Prop :=
  ∃ d', ExS K 80 rdF.scope (whB rdW) (pL i r p) (rA c0 (.list (gErs er)) z d) .nxt (rdL z'.raw (p + (partC i).length)) (rA c0 (.list (gErs er')) z' d')
omit OK in
theorem RdT.of {i : Nat} {r : Bool} {z' : Z} {er' : List Nat} {loc : Loc} {d' : List AO} (h : ExOK K 80 rdF.scope (whB rdW) (pL i r p) (rA c0 (.list (gErs er)) z d) .nxt loc (rA c0 (.list (gErs er')) z' d')) (w : LocLe (rdL z'.raw (p + (partC i).length)) loc) : RdT K c0 p er z d i r z' er' :=
  ⟨d', ⟨fun C I k => ExOK.post h w C I k⟩⟩
omit OK in
theorem up60 {f : Nat} {ga : List GV} {ah ah' : AH} {g : GV} {m : Nat} (a : Nat.ble m 60 = true) (h : ClOK K m f ga ah g ah') : ClOK K 60 f ga ah g ah' := ClOK.up h (Nat.le_of_ble_eq_true a)
theorem rt_fin (W : WF z k) (hr : z.raw = true) (i : Nat) (hi : i = 5 ∨ i = 8) : RdT K c0 p er z d i true (z.feed (.fin "t")) er := by
  obtain ⟨t, S, nd, eS, et, e⟩ := W.topIn
  have F : z.feed (.fin "t") = {z with S := S, raw := false} := by
    show (bif z.raw then _ else _) = _
    rw [hr, eS]; rfl
  rw [F]
  exact RdT.of (z' := {z with S := S, raw := false}) (d' := d) (tn_raw_end OK i hi eS) (by exact ⟨rfl, rfl, rfl, rfl, rfl, rfl, trivial⟩)
theorem rt_puts (W : WF z k) (hk : k < 700000) (hr : z.raw = true) (i : Nat) (hi : i < 12) (h5 : i ≠ 5) (h8 : i ≠ 8) : RdT K c0 p er z d i true (z.putS (txt (partC i))) er := by
  have hne : (txt (partC i) != "") = true := (by decide +kernel : ∀ i, i < 12 → (txt (partC i) != "") = true) i hi
  refine RdT.of (z' := z.putS (txt (partC i))) (tn_raw_puts OK i hi h5 h8 (up60 (by decide) (lput_ok OK W (by omega) hne (len100 hi)))) ?_
  show LocLe (rdL z.raw _) _
  rw [hr]
  exact ⟨rfl, rfl, rfl, rfl, rfl, rfl, trivial⟩
theorem rt_put (W : WF z k) (hk : k < 700000) (hr : z.raw = false) (i : Nat) (hi : i = 6 ∨ i = 11) : RdT K c0 p er z d i false (z.putS (txt (partC i))) er := by
  have hne : (txt (partC i) != "") = true := by rcases hi with rfl | rfl <;> decide +kernel
  have hl : i < 12 := by rcases hi with rfl | rfl <;> decide
  refine RdT.of (z' := z.putS (txt (partC i))) (tn_put OK i hi (up60 (by decide) (lput_ok OK W (by omega) hne (len100 hl)))) ?_
  show LocLe (rdL z.raw _) _
  rw [hr]
  exact ⟨rfl, rfl, rfl, rfl, rfl, rfl, trivial⟩
theorem rt_open (W : WF z k) (hk : k < 700000) (hr : z.raw = false) (i : Nat) (hi : i = 0 ∨ i = 2 ∨ i = 4 ∨ i = 10) : RdT K c0 p er z d i false (z.feed (.start (nmC i))) er := by
  have hnm : nmC i = "b" ∨ nmC i = "s" ∨ nmC i = "t" := by rcases hi with rfl | rfl | rfl | rfl <;> decide +kernel
  exact RdT.of (z' := z.feed (.start (nmC i))) (tn_open OK i hi (up60 (by decide) (open_ok OK W (by omega) hr hnm))) (by exact ⟨rfl, rfl, rfl, rfl, rfl, rfl, trivial⟩)
theorem rt_end (W : WF z k) (hr : z.raw = false) (i : Nat) (hi : i = 1 ∨ i = 3 ∨ i = 5 ∨ i = 8) : RdT K c0 p er z d i false (z.feed (.fin (nmC i))) er := by
  have T := rd_end OK W hr i hi (p := p) (c0 := c0) (d := d) (c2 := .list (gErs er))
  refine RdT.of (z' := z.feed (.fin (nmC i))) T.go ?_
  rw [rawF hr]
  exact ⟨rfl, rfl, rfl, rfl, rfl, rfl, trivial⟩
omit OK in
theorem space_of (W : WF z k) : ∃ t S nd, z.S = t :: S ∧ z.U[t]? = some nd ∧ (z.isFor = true → nd.space = "svg") ∧ (z.isFor = false → nd.space = "html") := by
  obtain ⟨t, S, nd, eS, et, e⟩ := W.topIn
  have hcur : z.cur = nd := by unfold Z.cur; rw [et]; exact at_eq e
  have isF : z.isFor = (nd.space == "svg") := by unfold Z.isFor; rw [hcur]
  obtain ⟨nd', e', h⟩ := W.sp t (by rw [eS]; exact .head _)
  rw [e] at e'; cases e'
  refine ⟨t, S, nd, eS, e, fun q => beq_iff_eq.mp (isF ▸ q), fun q => h.resolve_right fun a => ?_⟩
  rw [isF, a] at q
  cases q
theorem rt_svg (W : WF z k) (hk : k < 700000) (hr : z.raw = false) (hf : z.isFor = true) (i : Nat) (hi : i = 7 ∨ i = 9) : RdT K c0 p er z d i false (z.putS (txt (svC i))) er := by
  obtain ⟨t, S, nd, eS, e, hs, _⟩ := space_of W
  have hne : (txt (svC i) != "") = true := by rcases hi with rfl | rfl <;> decide +kernel
  have hl : (txt (svC i)).length ≤ 100 := by rcases hi with rfl | rfl <;> decide +kernel
  refine RdT.of (z' := z.putS (txt (svC i))) (tn_svg OK i hi eS e (hs hf) (up60 (by decide) (lput_ok OK W (by omega) hne hl))) ?_
  show LocLe (rdL z.raw _) _
  rw [hr]
  exact ⟨rfl, rfl, rfl, rfl, rfl, rfl, trivial⟩
theorem rt_html (W : WF z k) (her : er.length < 900000) (hf : z.isFor = false) (i : Nat) (hi : i = 7 ∨ i = 9) {z' : Z} {d' : List AO} {ah1 : AH} (hz : z'.raw = false) (a : ClOK K 60 1109 [.obj (.c 1), .str "comment", .str (coC i)] (rA c0 (.list (gErs (er ++ [p + 8]))) z d) .none ah1)
    (b : ClOK K 60 1109 [.obj (.c 1), .str "text", .str (reC i)] ah1 .none (rA c0 (.list (gErs (er ++ [p + 8]))) z' d')) : RdT K c0 p er z d i false z' (er ++ [p + 8]) := by
  obtain ⟨t, S, nd, eS, e, _, hs⟩ := space_of W
  refine RdT.of (z' := z') (tn_html OK i hi eS e (hs hf) her a b) ?_
  rw [hz]
  exact ⟨rfl, rfl, rfl, rfl, rfl, rfl, trivial⟩
theorem rt_raw (W : WF z k) (hk : k < 700000) (hr : z.raw = true) (i : Nat) (hi : i < 12) : RdT K c0 p er z d i true (z.rdT i) er := by
  cases q : (i == 5 || i == 8) with
  | true =>
    have h : i = 5 ∨ i = 8 := (Bool.or_eq_true_iff.mp q).imp beq_iff_eq.mp beq_iff_eq.mp
    unfold Z.rdT
    rw [q]
    exact rt_fin OK W hr i h
  | false =>
    obtain ⟨a, b⟩ := Bool.or_eq_false_iff.mp q
    unfold Z.rdT
    rw [q]
    exact rt_puts OK W hk hr i hi (beq_eq_false_iff_ne.mp a) (beq_eq_false_iff_ne.mp b)
theorem rt_mark (W : WF z k) (hk : k < 700000) (her : er.length < 900000) (hr : z.raw = false) (i : Nat) (hi : i = 7 ∨ i = 9) : RdT K c0 p er z d i false (z.rdN i) (er ++ bif z.isFor then [] else [p + 8]) := by
  cases hf : z.isFor with
  | true =>
    have q : z.rdN i = z.putS (txt (svC i)) := by
      rcases hi with rfl | rfl
      · show (bif z.isFor then _ else _) = _; rw [hf]; rfl
      · show (bif z.isFor then _ else _) = _; rw [hf]; rfl
    rw [q, cond_true, List.append_nil]
    exact rt_svg OK W hk hr hf i hi
  | false =>
    rw [cond_false]
    rcases hi with rfl | rfl
    · have q : z.rdN 7 = z.feed (.com "[CDATA[y]]") := by show (bif z.isFor then _ else _) = _; rw [hf]; rfl
      rw [q]
      exact rt_html OK W her hf 7 (.inl rfl) hr (up60 (by decide) (lcom_ok OK W (by omega) (by decide +kernel))) (up60 (by decide) (lemp_ok OK W))
    · have q : z.rdN 9 = (z.feed (.com "[CDATA[]<b")).putS (txt [93, 93, 62]) := by show (bif z.isFor then _ else _) = _; rw [hf]; rfl
      rw [q]
      have W1 : WF (z.feed (.com "[CDATA[]<b")) (k + 100) := W.feed (.com _) ⟨hr, by decide +kernel⟩ (by intro h; cases h)
      exact rt_html OK W her hf 9 (.inr rfl) hr (up60 (by decide) (lcom_ok OK W (by omega) (by decide +kernel))) (up60 (by decide) (lput_ok OK W1 (by omega) (by decide +kernel) (by decide +kernel)))
theorem rt_data (W : WF z k) (hk : k < 700000) (her : er.length < 900000) (hr : z.raw = false) (i : Nat) (hi : i < 12) : RdT K c0 p er z d i false (z.rdN i) (er ++ bif i == 7 || i == 9 then (bif z.isFor then [] else [p + 8]) else []) := by
  have e0 : er ++ [] = er := List.append_nil _
  rcases lt12 hi with rfl | rfl | rfl | rfl | rfl | rfl | rfl | rfl | rfl | rfl | rfl | rfl
  · exact e0.symm ▸ rt_open OK W hk hr 0 (by decide)
  · exact e0.symm ▸ rt_end OK W hr 1 (by decide)
  · exact e0.symm ▸ rt_open OK W hk hr 2 (by decide)
  · exact e0.symm ▸ rt_end OK W hr 3 (by decide)
  · exact e0.symm ▸ rt_open OK W hk hr 4 (by decide)
  · exact e0.symm ▸ rt_end OK W hr 5 (by decide)
  · exact e0.symm ▸ rt_put OK W hk hr 6 (by decide)
  · exact rt_mark OK W hk her hr 7 (by decide)
  · exact e0.symm ▸ rt_end OK W hr 8 (by decide)
  · exact rt_mark OK W hk her hr 9 (by decide)
  · exact e0.symm ▸ rt_open OK W hk hr 10 (by decide)
  · exact e0.symm ▸ rt_put OK W hk hr 11 (by decide)
theorem rd_turn (W : WF z k) (hk : k < 700000) (her : er.length < 900000) (i : Nat) (hi : i < 12) :
    ∃ d', ExS K 80 rdF.scope (whB rdW) (pL i z.raw p) (rA c0 (.list (gErs er)) z d) .nxt (rdL (z.rd i).raw (p + (partC i).length)) (rA c0 (.list (gErs (er ++ z.rdE i p))) (z.rd i) d') := by
  show RdT K c0 p er z d i z.raw (z.rd i) (er ++ z.rdE i p)
  cases hr : z.raw with
  | true =>
    rw [rd_t hr, rdE_t hr, List.append_nil]
    exact rt_raw OK W hk hr i hi
  | false =>
    rw [rd_n hr, rdE_n hr]
    exact rt_data OK W hk her hr i hi
noncomputable abbrev gParts (is : List Nat) : List GV := is.map fun i => .str (txt (partC i))
theorem rd_turns (c : List GV) : ∀ (is : List Nat), (∀ i ∈ is, i < 12) → ∀ {z : Z} {k p : Nat} {er : List Nat} {d : List AO}, WF z k → k + 200 * is.length < 700000 → er.length + is.length < 900000 →
    ∃ d', TnOK K 80 rdF.scope "part" (whB rdW) (fun ah => ah.get (.c 0) = some (.list c)) (gParts is) (rdL z.raw p) (rA (.list c) (.list (gErs er)) z d) .nxt (rdL (z.rds is).raw (p + (flat is).length)) (rA (.list c) (.list (gErs (er ++ z.rdEs p is))) (z.rds is) d')
  | [], _, z, k, p, er, d, _, _, _ => ⟨d, by
      show TnOK K 80 rdF.scope "part" (whB rdW) _ [] (rdL z.raw p) _ .nxt (rdL z.raw (p + 0)) (rA (.list c) (.list (gErs (er ++ []))) z d)
      rw [List.append_nil]; exact .nil rfl⟩
  | i :: is, h, z, k, p, er, d, W, hk, he => by
    simp only [List.length_cons] at he hk
    obtain ⟨d1, T⟩ := rd_turn OK (c0 := .list c) (p := p) (d := d) (er := er) W (by omega) (by omega) i (h i (.head _))
    have W1 : WF (z.rd i) (k + 200) := W.rd (h i (.head _))
    have hel := rdE_len z i p
    obtain ⟨d2, T2⟩ := rd_turns c is (fun j hj => h j (.tail _ hj)) (p := p + (partC i).length) (er := er ++ z.rdE i p) (d := d1) W1 (by omega) (by simp; omega)
    refine ⟨d2, ?_⟩
    rw [List.append_assoc] at T2
    have e : (flat (i :: is)).length = (partC i).length + (flat is).length := by simp [flat]
    rw [e, ← Nat.add_assoc]
    exact .nxt rfl T.go T2
end
end Mine
end

section
set_option maxRecDepth 100000
set_option autoImplicit false
set_option tactic.hygienic false
namespace Mine
open PySem PySem.W PySem.Calls PyProof.Rows PySem.Builtin PySem.Builtin.Str
noncomputable def z0 : Z := ⟨[⟨"element", "html", "html", "", 0, []⟩], [0], false, false, false⟩
theorem wf0 : WF z0 1 := by
  have one : ∀ {i : Nat} {nd : Nd}, z0.U[i]? = some nd → i = 0 ∧ nd = ⟨"element", "html", "html", "", 0, []⟩ := by
    intro i nd h
    cases i with
    | zero => exact ⟨rfl, (Option.some.inj h).symm⟩
    | succ i => cases h
  refine ⟨rfl, rfl, fun i hi => ?_, rfl, ⟨_, rfl, rfl⟩, fun i nd h => ?_, fun i nd h => ?_, fun i nd h => ?_, fun h => (nomatch h), by decide, by decide, fun i nd h => ?_⟩
  · have : i = 0 := by simpa [z0] using hi
    subst this
    exact ⟨_, rfl, rfl⟩
  · obtain ⟨rfl, rfl⟩ := one h; exact Nat.le_refl _
  · obtain ⟨rfl, rfl⟩ := one h; intro j hj; cases hj
  · obtain ⟨rfl, rfl⟩ := one h; exact .inl ⟨rfl, .inl rfl⟩
  · obtain ⟨rfl, rfl⟩ := one h; exact ⟨by decide, by decide⟩
noncomputable def gFau (r : Bool) : List GV := bif r then [.tup [.str "unexpected-eof", .str "text"]] else []
section
variable {K : Frag} (OK : PrOK K PP)
include OK
theorem reading_ok (is : List Nat) (h : ∀ i ∈ is, i < 12) (hl : is.length ≤ 1000) :
    ∃ d, ClOK K 140 1123 [.obj (.c 0)] ⟨[.list (gParts is)], [], []⟩ (.tup [.obj (.n 1), .obj (.c 2), .obj (.c 3)])
      ⟨[.list (gParts is), .list (gStk (z0.rds is).S), .list (gErs (z0.rdEs 0 is)), .list (gFau (z0.rds is).raw)], d, gRN (z0.rds is).U⟩ := by
  obtain ⟨d, T⟩ := rd_turns OK (gParts is) is h (z := z0) (k := 1) (p := 0) (er := []) (d := []) wf0 (by omega) (by simp; omega)
  obtain ⟨loc2, ll, T'⟩ := T.pre (loc0 := [("at", .int 0), ("is_raw", .bool false), ("errors", .obj (.c 2)), ("root", .obj (.n 1)), ("stack", .obj (.c 1)), ("parts", .obj (.c 0))]) (LocLe.s ⟨by kernel_rfl, by kernel_rfl, by kernel_rfl, by kernel_rfl, by kernel_rfl, by kernel_rfl, trivial⟩)
  have lle : LocLe (rdL (z0.rds is).raw (0 + (flat is).length)) loc2 :=
    ⟨ll _ _ (by kernel_rfl), ll _ _ (by kernel_rfl), ll _ _ (by kernel_rfl), ll _ _ (by kernel_rfl), ll _ _ (by kernel_rfl), ll _ _ (by kernel_rfl), trivial⟩
  have S : StOK K 120 rdF.scope (.For (.Name "part" (forP rdW)) (forI rdW) (whB rdW) [] (stPos rdW)) [("at", .int 0), ("is_raw", .bool false), ("errors", .obj (.c 2)), ("root", .obj (.n 1)), ("stack", .obj (.c 1)), ("parts", .obj (.c 0))] (rA (.list (gParts is)) (.list []) z0 []) .nxt
      (rdL (z0.rds is).raw (0 + (flat is).length)) (rA (.list (gParts is)) (.list (gErs (z0.rdEs 0 is))) (z0.rds is) d) := by
    have ev : EvOK K 80 rdF.scope (forI rdW) [("at", .int 0), ("is_raw", .bool false), ("errors", .obj (.c 2)), ("root", .obj (.n 1)), ("stack", .obj (.c 1)), ("parts", .obj (.c 0))] (rA (.list (gParts is)) (.list []) z0 []) (.obj (.c 0)) (rA (.list (gParts is)) (.list []) z0 []) := by
      intro _ _ _ _ _ _ _ _ _ _ _ C I k
      exact EvOK.up (run_ev OK (b := 0) (j := 10) (hs := []) (c := []) (hs' := []) (loc' := [("at", .int 0), ("is_raw", .bool false), ("errors", .obj (.c 2)), ("root", .obj (.n 1)), ("stack", .obj (.c 1)), ("parts", .obj (.c 0))]) (by kernel_rfl) trivial) (by decide) C I k
    intro _ _ _ _ _ _ _ _ _ _ _ C I k
    exact StOK.up (StOK.post (for_list (by decide +kernel) (by decide +kernel) ev rfl T') lle) (by decide) C I k
  refine ⟨d, ?_⟩
  cases hr : (z0.rds is).raw with
  | true =>
    rw [hr] at S
    exact run_call OK (b := 120) (j := 20) (hs := [.p .n, .p .n, .p .c, .p .c, .w .nxt (rdL true (0 + (flat is).length)) (rA (.list (gParts is)) (.list (gErs (z0.rdEs 0 is))) (z0.rds is) d), .a, .p .c])
      (c := [StOK K 120 rdF.scope (.For (.Name "part" (forP rdW)) (forI rdW) (whB rdW) [] (stPos rdW)) [("at", .int 0), ("is_raw", .bool false), ("errors", .obj (.c 2)), ("root", .obj (.n 1)), ("stack", .obj (.c 1)), ("parts", .obj (.c 0))] (rA (.list (gParts is)) (.list []) z0 []) .nxt
      (rdL true (0 + (flat is).length)) (rA (.list (gParts is)) (.list (gErs (z0.rdEs 0 is))) (z0.rds is) d)]) (hs' := []) (loc' := []) (by kernel_rfl) ⟨S, trivial⟩
  | false =>
    rw [hr] at S
    exact run_call OK (b := 120) (j := 20) (hs := [.p .n, .p .n, .p .c, .p .c, .w .nxt (rdL false (0 + (flat is).length)) (rA (.list (gParts is)) (.list (gErs (z0.rdEs 0 is))) (z0.rds is) d), .a, .p .c])
      (c := [StOK K 120 rdF.scope (.For (.Name "part" (forP rdW)) (forI rdW) (whB rdW) [] (stPos rdW)) [("at", .int 0), ("is_raw", .bool false), ("errors", .obj (.c 2)), ("root", .obj (.n 1)), ("stack", .obj (.c 1)), ("parts", .obj (.c 0))] (rA (.list (gParts is)) (.list []) z0 []) .nxt
      (rdL false (0 + (flat is).length)) (rA (.list (gParts is)) (.list (gErs (z0.rdEs 0 is))) (z0.rds is) d)]) (hs' := []) (loc' := []) (by kernel_rfl) ⟨S, trivial⟩
end
end Mine
end

section
set_option maxRecDepth 100000
set_option autoImplicit false
set_option linter.unusedVariables false
set_option tactic.hygienic false
namespace Mine
open PySem PySem.W PySem.Calls PyProof.Rows

/-! ## a list's display over calls of one def -/
/-- the calls, one an item, and what the display holds so far -/
inductive Cps (K : Frag) (n f : Nat) (r acc : Rf) (items : List GV) : List GV → List GV → AH → List GV → AH → Prop
  | nil {done : List GV} {ah : AH} : ah.get r = some (.list items) → ah.get acc = some (.list done) → Cps K n f r acc items [] done ah done ah
  | cons {x g : GV} {xs done fin : List GV} {ah ah1 ah' : AH} : ah.get r = some (.list items) → ClOK K n f [x] ah g ah1 → ah1.get acc = some (.list done) → done.length < 1000000 →
      Cps K n f r acc items xs (done ++ [g]) (ah1.set acc (.list (done ++ [g]))) fin ah' → Cps K n f r acc items (x :: xs) done ah fin ah'
theorem Ns_notTup {h : Heap} {a : Addr} {m : Str → Option Value} {o : Obj} (hn : h.Ns a m) (ho : h.get? a = some o) : ∀ vs, o ≠ tupOf vs := fun vs e => by
  obtain ⟨o', es, ep, h1, h2, _⟩ := hn
  rw [ho] at h1; cases h1
  rw [e] at h2; cases h2
section
variable {K : Frag} {φ : Phi} {ah : AH} {N : Led} {P : Params} {h₀ : Heap} {L : Addr} {loc : Loc} {m : Str → Option Value}
theorem Li.turn' {h h' : Heap} (I : Li K P h₀ L loc ah φ N m h) {a : Addr} {o o' : Obj} (hm : (a, o) ∈ N) (hf : a ∉ foot φ ah) (hc : ∀ vs, o ≠ tupOf vs) (ha : h'.get? a = some o') (hk : ∀ b x, b ≠ a → h.get? b = some x → h'.get? b = some x) :
    Li K P h₀ L loc ah φ (upd a o' N) m h' ∧ (a, o') ∈ upd a o' N ∧ Stay φ N φ (upd a o' N) := by
  have z := I.nw _ hm
  have F' : Fr h₀ L h' m := ⟨Heap.Ns.at' I.fr.ns fun x e => hk _ _ (Ne.symm z.2.1) e, fun b x e => hk b x (fun q => by rw [q, z.2.2] at e; cases e) (I.fr.keep b x e), I.fr.above⟩
  have N' : News h₀ L h' (upd a o' N) := by
    intro p hp
    obtain ⟨q, hq, rfl⟩ := List.mem_map.mp hp
    by_cases e : q.1 = a
    · rw [if_pos e]; exact ⟨ha, z.2⟩
    · rw [if_neg e]
      have y := I.nw q hq
      exact ⟨hk _ _ e y.1, y.2⟩
  obtain ⟨H, S⟩ := I.hr.re (N' := upd a o' N) (by rw [upd_keys]; exact I.hr.nd) (fun b x hb hx => upd_ne hx fun q => hf (by rw [← q]; exact hb)) (fun b vs hb => upd_ne hb fun q => by
    have q : b = a := q
    subst q
    exact hc vs (eq_of_nodup I.hr.nd hm hb))
  exact ⟨⟨F', N', H, I.lc.stay S⟩, upd_at hm, S⟩
theorem Li.drop' {h h' : Heap} (I : Li K P h₀ L loc ah φ N m h) {a : Addr} {o : Obj} (hm : (a, o) ∈ N) (hf : a ∉ foot φ ah) (hc : ∀ vs, o ≠ tupOf vs) (hk : ∀ b x, b ≠ a → h.get? b = some x → h'.get? b = some x) :
    Li K P h₀ L loc ah φ (N.filter fun p => p.1 != a) m h' ∧ Stay φ N φ (N.filter fun p => p.1 != a) := by
  have z := I.nw _ hm
  have F' : Fr h₀ L h' m := ⟨Heap.Ns.at' I.fr.ns fun x e => hk _ _ (Ne.symm z.2.1) e, fun b x e => hk b x (fun q => by rw [q, z.2.2] at e; cases e) (I.fr.keep b x e), I.fr.above⟩
  have N' : News h₀ L h' (N.filter fun p => p.1 != a) := by
    intro p hp
    obtain ⟨hq, e⟩ := List.mem_filter.mp hp
    have y := I.nw p hq
    exact ⟨hk _ _ (by simpa using e) y.1, y.2⟩
  obtain ⟨H, S⟩ := I.hr.re (N' := N.filter fun p => p.1 != a) (I.hr.nd.sublist (List.filter_sublist.map _)) (fun b x hb hx => List.mem_filter.mpr ⟨hx, by
    have : b ≠ a := fun q => hf (q ▸ hb)
    simpa using this⟩) (fun b vs hb => List.mem_filter.mpr ⟨hb, by
    have : b ≠ a := fun q => by
      subst q
      exact hc vs (eq_of_nodup I.hr.nd hm hb)
    simpa using this⟩)
  exact ⟨⟨F', N', H, I.lc.stay S⟩, S⟩
end
theorem itr_notTup {T : String} (h : T ≠ "tuple") (o : Obj) (e : o.cls = .type T) : ∀ ws, o ≠ tupOf ws := fun ws q => by
  rw [q] at e
  exact h (Value.type.inj e).symm
/-- the display's own space -/
noncomputable def dEnv (csc : Scope) (Ca : Addr) (env : Env) : Env := { newEnv csc Ca env.globals [] env.qual none .none (some env) builtinsNs with scope := csc }
section
variable {K : Frag} {n : Nat} {sc csc : Scope} {loc : Loc} {ah ah' : AH} {r acc : Rf} {items fin : List GV} {f : Nat} {fnm x : Str} {pf px px2 pc pos : Pos} {iter : Expr}
/-- what stands at a turn of the display -/
inductive DInv (K : Frag) (P : Params) (h₀ : Heap) (L : Addr) (loc : Loc) (m : Str → Option Value) (φ : Phi) (ah : AH) (N : Led) (n f : Nat) (r acc : Rf) (items fin : List GV) (ah' : AH) (p1 ac It Ca : Addr) (s : Shared) (k : Nat) (s' : Shared) : Prop
  | mk (i : Nat) (done : List GV) (ah2 : AH) (φ2 : Phi) (N2 : Led) (h : Heap) (tk : Nat) (oI oC : Obj) (mC : Str → Option Value) (d1 d2 : Addr) (e : s' = ⟨h, s.gens, s.drawn, tk, s.os⟩) (hi : i ≤ items.length) (hk : k = items.length - i + 1) (hit : h.IsListIter It p1 i)
    (I0 : Li K P h₀ L loc ah2 φ2 N2 m h) (X0 : Ext φ ah N φ2 ah2 N2) (hpr : φ2.get r = some (p1, d1)) (hpa : φ2.get acc = some (ac, d2)) (hmI : (It, oI) ∈ N2) (hfI : It ∉ foot φ2 ah2) (hoI : ∀ vs, oI ≠ tupOf vs) (hmC : (Ca, oC) ∈ N2) (hfC : Ca ∉ foot φ2 ah2) (hnC : h.Ns Ca mC)
    (T : Cps K n f r acc items (items.drop i) done ah2 fin ah') : DInv K P h₀ L loc m φ ah N n f r acc items fin ah' p1 ac It Ca s k s'
section
variable {prog : Program} {w : World} {A : Around} {E : Value → Shared → Prop} {s : Shared} {h₀ : Heap} {env : Env} {φ : Phi} {N : Led} {m : Str → Option Value} {p1 ac It Ca : Addr}
/-- the call of a turn -/
theorem disp_call (C : CX K A h₀ env sc n) (hkind : csc.kind = .function) (hx : csc.names.lookup x = some .local) (hf : csc.names.lookup fnm = some .globalImplicit) (hdx : (x == ("__debug__" : Str)) = false) (hdf : (fnm == ("__debug__" : Str)) = false)
    (hg : nsIn K mainGlobals fnm = some (some (.ref f))) {ah1 ah2 : AH} {φ2 : Phi} {N2 : Led} {h2 : Heap} {tk : Nat} {m2 : Str → Option Value} {v : Value} {g g0 : GV} {Q : Value → Shared → Prop} (cl : ClOK K n f [g0] ah1 g ah2) (I : Li K w.params h₀ env.locals loc ah1 φ2 N2 m h2) (hn : h2.Ns Ca m2) (hm : m2 x = some v) (hv : V K φ2 N2 g0 v)
    (k : ∀ φ' N' v h' tk, Li K w.params h₀ env.locals loc ah2 φ' N' m h' → Ext φ2 ah1 N2 φ' ah2 N' → V K φ' N' g v → Q v ⟨h', s.gens, s.drawn, tk, s.os⟩) :
    wpAny (model prog w) A (eval (.Call (.Name fnm pf) [.Name x px] [] pc) (dEnv csc Ca env)) Q E ⟨h2, s.gens, s.drawn, tk, s.os⟩ := by
  obtain ⟨pp, loose, mg, mb, TR⟩ := C.top
  obtain ⟨cn, aa, cd, henv⟩ := C.envE
  have hglob : env.globals = mainGlobals := by rw [henv]
  refine wpAny_CallF (fun _ _ _ h => by cases h) (Name_function_global hkind hf (loadGlobal_global (env := dEnv csc Ca env) (by
    show Heap.Ns h2 env.globals mg
    rw [hglob]
    exact TR.g.keeps I.fr.keep) (mg_of C.kin TR.g hg) ?_) hdf)
  refine callWith_of (P := K.In) rfl (fun h X => keeps_K cl.1 h X) ?_
  refine evalArgs_plain (spliced_cons (wpAny_Name (wpAny_loadName_local hkind hx hn hm ?_) hdx))
  refine spliced_nil ⟨C.kin.keeps I.fr.keep, ?_⟩
  exact ClOK.call cl (s := ⟨h2, s.gens, s.drawn, tk, s.os⟩) (vs := [v]) C I ⟨v, [], rfl, hv, rfl⟩ fun φ5 N5 u h5 tk5 I5 X5 hu => k _ _ _ _ _ I5 X5 hu
theorem new_off {φ φ' : Phi} {ah1 ah2 : AH} {N N' : Led} (X : Ext φ ah1 N φ' ah2 N') {a : Addr} {o : Obj} (hm : (a, o) ∈ N) (hf : a ∉ foot φ ah1) : a ∉ foot φ' ah2 := fun q => (X.new _ q).elim hf fun z => z (List.mem_map.mpr ⟨_, hm, rfl⟩)
theorem disp_loop (C : CX K A h₀ env sc n) (hkind : csc.kind = .function) (hx : csc.names.lookup x = some .local) (hf : csc.names.lookup fnm = some .globalImplicit) (hdx : (x == ("__debug__" : Str)) = false) (hdf : (fnm == ("__debug__" : Str)) = false)
    (hg : nsIn K mainGlobals fnm = some (some (.ref f))) (oIt : It ∉ N.map (·.1)) (oC' : Ca ∉ N.map (·.1)) (hne : It ≠ Ca) {R : Result → Shared → Prop} {s0 : Shared} {k0 : Nat} (D : DInv K w.params h₀ env.locals loc m φ ah N n f r acc items fin ah' p1 ac It Ca s k0 s0)
    (hR : ∀ φ' h tk mC, h.Ns Ca mC → (∀ h', Heap.SameBut Ca h h' → ∃ N'', Li K w.params h₀ env.locals loc ah' φ' N'' m h' ∧ Ext φ ah N φ' ah' N'') → (∃ d, φ'.get acc = some (ac, d)) → R (.ok .next) ⟨h, s.gens, s.drawn, tk, s.os⟩) :
    codeAny (model prog w) A (.compLoop (.ListComp (.Call (.Name fnm pf) [.Name x px] [] pc) [⟨.Name x px2, iter, [], 0⟩] csc pos) 0 (.ref It) (.ref ac) (dEnv csc Ca env)) R s0 := by
  refine codeAny_compLoop_list (fun k' s' => DInv K w.params h₀ env.locals loc m φ ah N n f r acc items fin ah' p1 ac It Ca s k' s') ?_ k0 D
  clear D
  rintro k' s' ⟨i, done, ah2, φ2, N2, h, tk, oI, oC, mC, d1, d2, rfl, hi, rfl, hit, I0, X0, hpr, hpa, hmI, hfI, hoI, hmC, hfC, hnC, T⟩
  rcases Nat.lt_or_ge i items.length with lt | ge
  · obtain ⟨g0, hg0, hd⟩ := drop_item lt
    rw [hd] at T
    clear hd
    cases T with
    | @cons _ g _ _ _ _ ah3 _ ck cl ca hdl T' =>
    refine (Iter.list C.hand (r := r) (xs := items)).next (s := ⟨h, s.gens, s.drawn, tk, s.os⟩) hg0 I0 C.kin ⟨ck, _, hpr⟩ hit fun v h1 tk1 hv hit1 hk => ?_
    obtain ⟨o1, ho1, hc1, _⟩ := id hit1
    obtain ⟨I1, hmI1, S1⟩ := I0.turn' hmI hfI hoI ho1 hk
    have Y1 := X0.turn (o' := o1) oIt
    have hmC1 : (Ca, oC) ∈ upd It o1 N2 := upd_ne hmC (Ne.symm hne)
    have hnC1 : h1.Ns Ca mC := Heap.Ns.at' hnC fun o e => hk _ _ (Ne.symm hne) e
    clear hnC hmC hmI hit hk X0 I0
    refine wpAny_assign_Name (wpAny_storeName_local (env := dEnv csc Ca env) hx hnC1 (fun h2 hn2 hs2 => ?_) (by
      show (csc.kind == .class || (csc.kind == .module && _)) = false
      rw [hkind]; rfl))
    obtain ⟨oC2, hoC2⟩ : ∃ oC, h2.get? Ca = some oC := by obtain ⟨o, _, _, e, _⟩ := hn2; exact ⟨o, e⟩
    obtain ⟨I2, hmC2, S2⟩ := I1.turn' hmC1 hfC (Ns_notTup hnC1 (I1.nw _ hmC1).1) hoC2 (fun b o hb e => (hs2.2 b hb).trans e)
    have Y2 := Y1.turn (o' := oC2) oC'
    have hmI2 : (It, o1) ∈ upd Ca oC2 (upd It o1 N2) := upd_ne hmI1 hne
    have hit2 : h2.IsListIter It p1 (i + 1) := (Iter.list (K := K) (prog := prog) (w := w) C.hand (r := r) (xs := items)).at_ _ h1 h2 hit1 (hs2.2 It hne)
    have hv2 : V K φ2 (upd Ca oC2 (upd It o1 N2)) g0 v := V.stay S2 _ _ (V.stay S1 _ _ hv)
    clear hs2 S1 S2 hv hit1 hmI1 hmC1 hnC1 I1 Y1 ho1
    refine disp_call (s := s) C hkind hx hf hdx hdf hg cl I2 hn2 (if_pos rfl) hv2 fun φ5 N5 u h5 tk5 I5 X5 hu => ?_
    refine r_append (s := ⟨h5, s.gens, s.drawn, tk5, s.os⟩) I5 ca (v := .ref ac) ⟨(ac, d2), X5.pre.get hpa, rfl⟩ hu hdl fun N6 h6 tk6 I6 X6 => ?_
    have hmI5 := X5.keep _ hmI2 hfI
    have hmC5 := X5.keep _ hmC2 hfC
    have fI5 := new_off X5 hmI2 hfI
    have fC5 := new_off X5 hmC2 hfC
    have hmI6 := X6.keep _ hmI5 fI5
    have hmC6 := X6.keep _ hmC5 fC5
    exact ⟨items.length - (i + 1) + 1, turn_down lt, i + 1, _, _, φ5, N6, h6, tk6, o1, oC2, _, _, _, rfl, lt, rfl,
      (Iter.list (K := K) (prog := prog) (w := w) C.hand (r := r) (xs := items)).at_ _ h2 h6 hit2 ((I6.nw _ hmI6).1.trans (I2.nw _ hmI2).1.symm), I6, (Y2.trans X5).trans X6, X5.pre.get hpr, X5.pre.get hpa,
      hmI6, new_off X6 hmI5 fI5, itr_notTup (T := "list_iterator") (by decide) _ hc1, hmC6, new_off X6 hmC5 fC5, Heap.Ns.at' hn2 fun o e => by rw [(I2.nw _ hmC2).1] at e; cases e; exact (I6.nw _ hmC6).1, T'⟩
  · have e : i = items.length := Nat.le_antisymm hi ge
    subst e
    rw [List.drop_length] at T
    cases T with
    | nil ck ca =>
    refine (Iter.list C.hand (r := r) (xs := items)).done (s := ⟨h, s.gens, s.drawn, tk, s.os⟩) I0 C.kin ⟨ck, _, hpr⟩ hit fun h1 tk1 hk => ?_
    refine hR φ2 h1 tk1 mC (Heap.Ns.at' hnC fun o e => hk _ _ (Ne.symm hne) e) (fun h' hsb => ?_) ⟨_, hpa⟩
    obtain ⟨I5, S5⟩ := I0.drop' hmI hfI hoI hk
    have hmC5 : (Ca, oC) ∈ N2.filter fun p => p.1 != It := List.mem_filter.mpr ⟨hmC, by simpa using (Ne.symm hne)⟩
    obtain ⟨I6, S6⟩ := I5.drop' hmC5 hfC (Ns_notTup hnC (I0.nw _ hmC).1) fun b o hb e => (hsb.2 b hb).trans e
    exact ⟨_, I6, (X0.drop oIt).drop oC'⟩
end
theorem EvOK.display (hfree : ∀ y ∈ csc.names, y.2 ≠ .free) (hcell : ∀ y ∈ csc.names, y.2 ≠ .cell) (hkind : csc.kind = .function) (hnames : ∀ y ∈ csc.names, y.2 = .local → csc.names.lookup y.1 = some .local)
    (hx : csc.names.lookup x = some .local) (hf : csc.names.lookup fnm = some .globalImplicit) (hdx : (x == ("__debug__" : Str)) = false) (hdf : (fnm == ("__debug__" : Str)) = false) (hs : forG.isSet iter = false)
    (hg : nsIn K mainGlobals fnm = some (some (.ref f))) (h1 : EvOK K n sc iter loc ah (.obj r) ah) (hr : ah.get r = some (.list items))
    (T : Cps K n f r (ah.nx .d) items items [] (ah.push .d (.list [])) fin ah') :
    EvOK K n sc (.ListComp (.Call (.Name fnm pf) [.Name x px] [] pc) [⟨.Name x px2, iter, [], 0⟩] csc pos) loc ah (.obj (ah.nx .d)) ah' := by
  intro prog w A E s h₀ env φ N m Q C I k
  refine wpAny_ListComp hfree hkind hnames (h1 C I fun φ1 N1 v h1 tk1 I1 X1 hv => ?_) (folded_plain hs)
  obtain ⟨p, vs, c, hp, rfl, hm, hx', l⟩ := Li.list (s := ⟨h1, s.gens, s.drawn, tk1, s.os⟩) I1 hr hv
  refine wpAny_pyIter_list (s := ⟨h1, s.gens, s.drawn, tk1, s.os⟩) l ?_
  clear l hx' hm hv I
  obtain ⟨I2, X2, S2⟩ := Li.more (s := ⟨h1, s.gens, s.drawn, tk1, s.os⟩) I1 (I1.fr.push (itObj "list_iterator" #[.ref p.1, .int 0 0])) (News.push I1.fr I1.nw (itObj "list_iterator" #[.ref p.1, .int 0 0])) (Li.fresh (s := ⟨h1, s.gens, s.drawn, tk1, s.os⟩) I1)
  have fIt : h1.objs.size ∉ N1.map (·.1) := Li.fresh (s := ⟨h1, s.gens, s.drawn, tk1, s.os⟩) I1
  refine Li.newList (s := ⟨h1.push (itObj "list_iterator" #[.ref p.1, .int 0 0]), s.gens, s.drawn, tk1, s.os⟩) I2 .d (gs := []) (vs := []) rfl (by decide) fun φ3 N3 va h3 tk3 I3 X3 hva => ?_
  obtain ⟨⟨ac, ad⟩, hac, hva⟩ := hva
  have hva : va = .ref ac := hva
  subst hva
  refine wpAny_newFunctionEnv hcell (by intro y hy; cases hy) (fun h4 hn4 hs4 => ?_) hkind
  have k34 : ∀ b o, h3.get? b = some o → h4.get? b = some o := fun b o e => (hs4.2 b (Nat.ne_of_lt (Heap.lt_size e))).trans (Heap.get?_push_of_some _ e)
  clear hs4
  have fC : h3.objs.size ∉ N3.map (·.1) := Li.fresh (s := ⟨h3, s.gens, s.drawn, tk3, s.os⟩) I3
  obtain ⟨oC, hoC⟩ : ∃ oC, h4.get? h3.objs.size = some oC := by obtain ⟨o, _, _, e, _⟩ := hn4; exact ⟨o, e⟩
  have hCL : h3.objs.size ≠ env.locals := fun q => by
    have := I3.fr.ns.lt
    rw [← q] at this
    exact Nat.lt_irrefl _ this
  have F4 : Fr h₀ env.locals h4 m := ⟨Heap.Ns.at' I3.fr.ns (k34 _), fun b o e => k34 b o (I3.fr.keep b o e), I3.fr.above⟩
  have N4 : News h₀ env.locals h4 ((h3.objs.size, oC) :: N3) := by
    intro q hq
    rcases List.mem_cons.mp hq with rfl | hq
    · refine ⟨hoC, hCL, ?_⟩
      cases e : h₀.get? h3.objs.size with
      | none => rfl
      | some o => exact absurd (Heap.lt_size (I3.fr.keep _ _ e)) (Nat.lt_irrefl _)
    · have y := I3.nw q hq
      exact ⟨k34 _ _ y.1, y.2⟩
  clear hCL hoC
  obtain ⟨I4, X4, S4⟩ := Li.more (s := ⟨h3, s.gens, s.drawn, tk3, s.os⟩) I3 F4 N4 fC
  clear F4 N4
  have XX := ((X1.trans X2).trans X3).trans X4
  have fIt1 : h1.objs.size ∉ foot φ1 ah := fun q => fIt (I1.hr.foot_in q)
  have hIt2 := X3.keep _ (.head _) fIt1
  have D : ∀ tk0, DInv K w.params h₀ env.locals loc m φ ah N n f r (ah.nx .d) items fin ah' p.1 ac h1.objs.size h3.objs.size s (items.length - 0 + 1) ⟨h4, s.gens, s.drawn, tk0, s.os⟩ := fun tk0 =>
    ⟨0, [], _, φ3, _, h4, tk0, _, oC, _, _, _, rfl, Nat.zero_le _, rfl, ⟨_, k34 _ _ (I3.nw _ hIt2).1, rfl, rfl⟩, I4, XX, X3.pre.get hp, hac, .tail _ hIt2, new_off X3 (.head _) fIt1, itr_notTup (T := "list_iterator") (by decide) _ rfl, .head _, fun q => fC (I3.hr.foot_in q), hn4, T⟩
  have core := fun tk0 => disp_loop (prog := prog) (pf := pf) (px := px) (px2 := px2) (pc := pc) (pos := pos) (iter := iter) C hkind hx hf hdx hdf hg (fun q => fIt (X1.old _ q)) (fun q => fC (X3.old _ (X2.old _ (X1.old _ q)))) (fun q => fC (q ▸ List.mem_map.mpr ⟨_, hIt2, rfl⟩)) (D tk0)
    (R := fun r' s' => ∃ mC, s'.heap.Ns h3.objs.size mC ∧ ∀ h', Heap.SameBut h3.objs.size s'.heap h' → match r' with
      | .ok _ => Q (.ref ac) { s' with heap := h' }
      | .error y => wpAny (model prog w) A (passOn "comprehension.variables-let-go" y (dEnv csc h3.objs.size env)) Q E { s' with heap := h' })
    fun φ' h tk mC hn li ⟨d, hpa⟩ => ⟨mC, hn, fun h' sb => by
      obtain ⟨N'', I6, X6⟩ := li h' sb
      exact k _ _ _ _ _ I6 X6 ⟨(ac, d), hpa, rfl⟩⟩
  exact codeAny_compStart_list (core _) (wpAny_pyIter_listiter ⟨_, k34 _ _ (I3.nw _ hIt2).1, rfl, rfl⟩ (core _))
end
end Mine
end

section
set_option maxRecDepth 100000
set_option autoImplicit false
set_option tactic.hygienic false
namespace Mine
open PySem PySem.W PySem.Calls PyProof.Rows
noncomputable def tupG (U : List Nd) : Nat → Nat → GV
  | 0, _ => .none
  | f + 1, k => .tup [.str (at_ U k).kind, .str (at_ U k).space, .str (at_ U k).name, .tup [], .str (at_ U k).text, .tup ((at_ U k).kids.map (tupG U f)), .none]
noncomputable def ltF : FI := fiOf (topAt 89) []
noncomputable def retE : Stmt → Expr
  | .Return (some e) _ => e
  | _ => .Constant .none 0 default
noncomputable def ltC : Expr := callA (tupE (retE (stAt ltF.body 1)) 5) 0
noncomputable def lcE : Expr → Expr
  | .ListComp e _ _ _ => e
  | _ => .Constant .none 0 default
noncomputable def lcG : Expr → Comprehension
  | .ListComp _ (g :: _) _ _ => g
  | _ => ⟨.Constant .none 0 default, .Constant .none 0 default, [], 0⟩
noncomputable def lcS : Expr → Scope
  | .ListComp _ _ s _ => s
  | _ => default
noncomputable def lcP : Expr → Pos
  | .ListComp _ _ _ p => p
  | _ => default
noncomputable def nmPos : Expr → Pos
  | .Name _ p => p
  | _ => default
theorem fn_glob {K : Frag} (OK : PrOK K PP) {x : Str} {f : Nat} (h : PP.glob.lookup x = some (.fn f)) (hb : bootBuiltins x = none) : nsIn K mainGlobals x = some (some (.ref f)) := by
  rcases OK.gl x _ h with ⟨v, h1, h2⟩ | ⟨v, h1, h2, _⟩
  · have : v = .ref f := h2 ⟨[], [], []⟩ []
    rw [this] at h1; exact h1
  · rw [hb] at h2; cases h2
noncomputable abbrev ltL (k : Nat) (nd : Nd) : Loc := [("children", .obj (.n (2 * k))), ("text", .str nd.text), ("name", .str nd.name), ("space", .str nd.space), ("kind", .str nd.kind), ("node", .obj (.n (2 * k + 1)))]
section
variable {K : Frag} (OK : PrOK K PP) {U : List Nd} {n : List AO} (hn : ∀ (i : Nat) (nd : Nd), U[i]? = some nd → n[2 * i]? = some (kidO nd) ∧ n[2 * i + 1]? = some (ndO i nd))
include OK hn
set_option linter.unusedSectionVars false
theorem lt_cps {f : Nat} {m : Nat} {k : Nat} {nd : Nd} (hk : U[k]? = some nd) (c d : List AO) : ∀ (ks : List Nat), (∀ j ∈ ks, ∀ c d, ∃ g, ClOK K m 1128 [.obj (.n (2 * j + 1))] ⟨c, d, n⟩ (tupG U f j) ⟨c, d ++ g, n⟩) →
    ∀ (done : List GV) (gi : List AO), done.length + ks.length < 1000000 → ∃ g', Cps K m 1128 (.n (2 * k)) (.d d.length) (kL nd.kids) (kL ks) done ⟨c, (d ++ [AO.list done]) ++ gi, n⟩ (done ++ ks.map (tupG U f)) ⟨c, (d ++ [AO.list (done ++ ks.map (tupG U f))]) ++ g', n⟩
  | [], _, done, gi, _ => ⟨gi, by
      show Cps K m 1128 _ _ _ [] done _ (done ++ []) ⟨c, (d ++ [AO.list (done ++ [])]) ++ gi, n⟩
      rw [List.append_nil]
      exact .nil ((hn _ _ hk).1) (get_app (get_len _ _) _)⟩
  | j :: ks, H, done, gi, hl => by
    obtain ⟨g, R⟩ := H j (.head _) c ((d ++ [AO.list done]) ++ gi)
    simp only [List.length_cons] at hl
    obtain ⟨g', T⟩ := lt_cps hk c d ks (fun i hi => H i (.tail _ hi)) (done ++ [tupG U f j]) (gi ++ g) (by simp; omega)
    refine ⟨g', ?_⟩
    have e : done ++ (j :: ks).map (tupG U f) = (done ++ [tupG U f j]) ++ ks.map (tupG U f) := by simp
    rw [e]
    refine .cons ((hn _ _ hk).1) R ?_ (by omega) ?_
    · show ((d ++ [AO.list done]) ++ gi ++ g)[d.length]? = _
      exact get_app (get_app (get_len _ _) _) _
    · have e2 : T3.set (⟨c, ((d ++ [AO.list done]) ++ gi) ++ g, n⟩ : AH) (.d d.length) (AO.list (done ++ [tupG U f j])) = ⟨c, (d ++ [AO.list (done ++ [tupG U f j])]) ++ (gi ++ g), n⟩ := by
        show (⟨c, (((d ++ [AO.list done]) ++ gi) ++ g).set d.length _, n⟩ : AH) = _
        congr 1
        simp [List.append_assoc]
      rw [e2]
      exact T
theorem lt_ok (hkid : ∀ (i : Nat) (nd : Nd), U[i]? = some nd → ∀ j ∈ nd.kids, i < j ∧ j < U.length) (hsz : ∀ (i : Nat) (nd : Nd), U[i]? = some nd → nd.kids.length < 900000) : ∀ (f k : Nat), U.length ≤ k + f → k < U.length → ∀ c d, ∃ g, ClOK K (10 + 6 * f) 1128 [.obj (.n (2 * k + 1))] ⟨c, d, n⟩ (tupG U f k) ⟨c, d ++ g, n⟩
  | 0, k, h, hk, _, _ => by omega
  | f + 1, k, h, hk, c, d => by
    have e := List.getElem?_eq_getElem hk
    generalize U[k] = nd at e
    obtain ⟨g', T⟩ := lt_cps OK hn (m := 10 + 6 * f) e c d nd.kids (fun j hj c d => lt_ok hkid hsz f j (by have := hkid _ _ e j hj; omega) (hkid _ _ e j hj).2 c d) [] [] (by simp; have := hsz _ _ e; omega)
    simp only [List.append_nil, List.nil_append] at T
    have ev : EvOK K (10 + 6 * f) ltF.scope ltC (ltL k nd) ⟨c, d, n⟩ (.obj (.d d.length)) ⟨c, (d ++ [AO.list (nd.kids.map (tupG U f))]) ++ g', n⟩ := by
      have sh : ltC = .ListComp (.Call (.Name "_law_tuple" (nmPos (callF (lcE ltC)))) [.Name "child" (nmPos (callA (lcE ltC) 0))] [] (callP (lcE ltC))) [⟨.Name "child" (nmPos (lcG ltC).target), (lcG ltC).iter, [], 0⟩] (lcS ltC) (lcP ltC) := by kernel_rfl
      rw [sh]
      intro _ _ _ _ _ _ _ _ _ _ _ C I q
      refine EvOK.display (ah := ⟨c, d, n⟩) (r := .n (2 * k)) (items := kL nd.kids) (by decide +kernel) (by decide +kernel) (by decide +kernel) (by decide +kernel) (by decide +kernel) (by decide +kernel) (by decide +kernel) (by decide +kernel) (by decide +kernel) (fn_glob OK (by kernel_rfl) (by decide +kernel)) ?_ ((hn _ _ e).1) T C I q
      intro _ _ _ _ _ _ _ _ _ _ _ C I q
      exact EvOK.up (run_ev OK (b := 0) (j := 10) (hs := []) (c := []) (hs' := []) (loc' := ltL k nd) (by kernel_rfl) trivial) (by omega) C I q
    refine ⟨AO.list (nd.kids.map (tupG U f)) :: g', ?_⟩
    have eg := (hn _ _ e).2
    have ht : tupG U (f + 1) k = .tup [.str nd.kind, .str nd.space, .str nd.name, .tup [], .str nd.text, .tup (nd.kids.map (tupG U f)), .none] := by
      unfold tupG; rw [at_eq e]
    rw [ht, show d ++ AO.list (nd.kids.map (tupG U f)) :: g' = (d ++ [AO.list (nd.kids.map (tupG U f))]) ++ g' by simp]
    exact run_call OK (b := 10 + 6 * f) (j := 6) (hs := [.o (ndO k nd), .e (.obj (.d d.length)) ⟨c, (d ++ [AO.list (nd.kids.map (tupG U f))]) ++ g', n⟩, .o (.list (nd.kids.map (tupG U f)))])
      (c := [n[2 * k + 1]? = some (ndO k nd), EvOK K (10 + 6 * f) ltF.scope ltC (ltL k nd) ⟨c, d, n⟩ (.obj (.d d.length)) ⟨c, (d ++ [AO.list (nd.kids.map (tupG U f))]) ++ g', n⟩, ((d ++ [AO.list (nd.kids.map (tupG U f))]) ++ g')[d.length]? = some (.list (nd.kids.map (tupG U f)))])
      (hs' := []) (loc' := []) (by kernel_rfl) ⟨eg, ev, get_app (get_len _ _) _, trivial⟩
end
end Mine
end

section
set_option maxRecDepth 100000
set_option autoImplicit false
set_option tactic.hygienic false
namespace Mine
open PySem PySem.W PySem.Calls PyProof.Rows
theorem wv_sorted0 {K : Frag} {n : Nat} {r : Rf} {ah : AH} (e : ah.get r = some (.list [])) : Wv K n [.obj r] (fun vs => call (.builtin "sorted") vs) ah (rV K (.obj (ah.nx .n))) (ah.push .n (.list [])) := by
  intro prog w A E s h₀ env sc loc φ N m vs Q C I hv kk
  obtain ⟨v, rfl, v1⟩ := Vs.one_inv hv
  obtain ⟨p, vs, c, hp, rfl, hm, hx, l⟩ := I.list e v1
  have hvs : vs = [] := hx
  subst hvs
  refine sorted_N (ns := []) I.fr I.nw l ?_ (by decide) fun h' vs' ns' e' F' N' hI' hp' _ => ?_
  · exact .nil
  · have hn : ns' = [] := hp'.eq_nil
    subst hn
    have hv : vs' = [] := by
      cases vs' with
      | nil => rfl
      | cons a b => cases hI'
    subst hv
    have fr : s.heap.objs.size + 1 ∉ N.map (·.1) := fun h => by
      obtain ⟨q, hq, e⟩ := List.mem_map.mp h
      have h1 := Heap.lt_size (I.nw q hq).1
      have h2 : s.heap.objs.size + 1 < s.heap.objs.size := by rw [e] at h1; exact h1
      exact Nat.lt_irrefl _ (Nat.lt_of_succ_lt h2)
    obtain ⟨I', X', hv'⟩ := Li.pushList (s := s) I .n (gs := []) (vs := []) (c := e') rfl (by decide) F' N' fr
    exact kk _ _ _ h' s.toks I' X' hv'
noncomputable def plF : FI := fiOf (topAt 34) []
noncomputable def plW : Stmt := stAt plF.body 1
noncomputable def aoF : FI := fiOf (topAt 33) []
noncomputable def aoE : Expr := retE (stAt aoF.body 2)
section
variable {K : Frag} (OK : PrOK K PP)
include OK
theorem ao_ev {q : Pre} {x : X} {d n : List AO} {k : Nat} : EvOK K 10 aoF.scope aoE [("pairs", .obj (.n n.length)), ("tree", .obj (.c 6)), ("node", .int (.ofNat k))] (hp q x d (n ++ [.list []])) (.obj (.n (n ++ [AO.list []]).length)) (hp q x d (n ++ [.list []] ++ [.list []])) := by
  have sh : aoE = .Call (callF aoE) [callA aoE 0] [] (callP aoE) := by kernel_rfl
  rw [sh]
  have he := (snd_mk OK (OrS.ok K 0) 10).1
  have a := he aoF.scope (callF aoE) ⟨[("pairs", .obj (.n n.length)), ("tree", .obj (.c 6)), ("node", .int (.ofNat k))], hp q x d (n ++ [.list []]), []⟩ [] (.bi "sorted") ⟨[("pairs", .obj (.n n.length)), ("tree", .obj (.c 6)), ("node", .int (.ofNat k))], hp q x d (n ++ [.list []]), []⟩ (by kernel_rfl) AllP.nil
  have z : evL ((mk PP (OrS K 0) 10).ev aoF.scope) [callA aoE 0] ⟨[("pairs", .obj (.n n.length)), ("tree", .obj (.c 6)), ("node", .int (.ofNat k))], hp q x d (n ++ [.list []]), []⟩ = some ([], [.obj (.n n.length)], ⟨[("pairs", .obj (.n n.length)), ("tree", .obj (.c 6)), ("node", .int (.ofNat k))], hp q x d (n ++ [.list []]), []⟩) := by kernel_rfl
  have b := snd_args (sc := aoF.scope) he [callA aoE 0] z AllP.nil
  intro _ _ _ _ _ _ _ _ _ _ _ C I kk
  refine snd_callF (ev := (mk PP (OrS K 0) 10).ev) (v := .builtin "sorted") ?_ a.2 b.2 ?_ ?_ (keeps_M0 fun a q => by cases q) (wv_sorted0 (r := .n n.length) (ah := hp q x d (n ++ [AO.list []])) (show (n ++ [AO.list []])[n.length]? = some (AO.list []) from get_len n _)) C I kk
  · intro o x p h
    have := congrArg (fun e : Expr => match e with | .Attribute .. => true | _ => false) h
    have z : (match callF aoE with | .Attribute .. => true | _ => false) = false := by kernel_rfl
    rw [z] at this; cases this
  · exact evL_ns z
  · intro φ N u h; exact h
theorem ao_ok {q : Pre} {x : X} {d n : List AO} {k : Nat} (h1 : x.attrs[k]? = some (.obj (.d (2 * k)))) (h2 : d[2 * k]? = some (.list [])) : ClOK K 20 556 [.obj (.c 6), .int (.ofNat k)] (hp q x d n) (.obj (.n (n ++ [AO.list []]).length)) (hp q x d (n ++ [.list []] ++ [.list []])) :=
  run_call OK (b := 10) (j := 10) (hs := [.p .n, .v (.obj (.d (2 * k))), .o (.list []), .e (.obj (.n (n ++ [AO.list []]).length)) (hp q x d (n ++ [.list []] ++ [.list []]))])
    (c := [x.attrs[k]? = some (.obj (.d (2 * k))), d[2 * k]? = some (.list []), EvOK K 10 aoF.scope aoE [("pairs", .obj (.n n.length)), ("tree", .obj (.c 6)), ("node", .int (.ofNat k))] (hp q x d (n ++ [.list []])) (.obj (.n (n ++ [AO.list []]).length)) (hp q x d (n ++ [.list []] ++ [.list []]))])
    (hs' := []) (loc' := []) (by kernel_rfl) ⟨h1, h2, ao_ev OK, trivial⟩
noncomputable abbrev plL (k i : Nat) : Loc := [("children", .obj (.n i)), ("tree", .obj (.c 6)), ("node", .int (.ofNat k))]
theorem pl_turns {q : Pre} {x : X} {d : List AO} {m k i : Nat} {T : Nat → GV} {items : List GV} {r : Rf} (hr : ∀ n, (hp q x d n).get r = some (.list items)) : ∀ (ks : List Nat), (∀ j ∈ ks, ∀ n, ∃ g, ClOK K m 563 [.obj (.c 6), .int (.ofNat (j + 1))] (hp q x d n) (T j) (hp q x d (n ++ g))) →
    ∀ (n gi : List AO) (done : List GV), n.length = i → done.length + ks.length < 1000000 → ∃ g', TnOK K (m + 6) plF.scope "child" (whB plW) (fun ah => ah.get r = some (.list items)) (gKd ks) (plL k i) (hp q x d ((n ++ [.list done]) ++ gi)) .nxt (plL k i) (hp q x d ((n ++ [.list (done ++ ks.map T)]) ++ g'))
  | [], _, n, gi, done, _, _ => ⟨gi, by
      show TnOK K (m + 6) plF.scope "child" (whB plW) _ [] (plL k i) _ .nxt (plL k i) (hp q x d ((n ++ [.list (done ++ [])]) ++ gi))
      rw [List.append_nil]
      exact .nil (hr _)⟩
  | j :: ks, H, n, gi, done, hn, hl => by
    simp only [List.length_cons] at hl
    obtain ⟨g, R⟩ := H j (.head _) ((n ++ [.list done]) ++ gi)
    obtain ⟨g', T'⟩ := pl_turns hr ks (fun i hi => H i (.tail _ hi)) n (gi ++ g) (done ++ [T j]) hn (by simp; omega)
    refine ⟨g', ?_⟩
    have e : done ++ (j :: ks).map T = (done ++ [T j]) ++ ks.map T := by simp
    rw [e]
    have a1 : ((n ++ [AO.list done]) ++ gi)[i]? = some (.list done) := get_app (by rw [← hn]; exact get_len _ _) _
    have a2 : (((n ++ [AO.list done]) ++ gi) ++ g)[i]? = some (.list done) := get_app a1 _
    have e2 : (((n ++ [AO.list done]) ++ gi) ++ g).set i (.list (done ++ [T j])) = (n ++ [AO.list (done ++ [T j])]) ++ (gi ++ g) := by
      subst hn
      simp [List.append_assoc]
    have B : ExOK K (m + 6) plF.scope (whB plW) (("child", .int (.ofNat (j + 1))) :: plL k i) (hp q x d ((n ++ [.list done]) ++ gi)) .nxt (("child", .int (.ofNat (j + 1))) :: plL k i) (hp q x d ((n ++ [AO.list (done ++ [T j])]) ++ (gi ++ g))) := by
      rw [← e2]
      intro _ _ _ _ _ _ _ _ _ _ _ C I kk
      exact run_ex OK (b := m) (j := 6) (hs := [.o (.list done), .c 563 (T j) (hp q x d (((n ++ [.list done]) ++ gi) ++ g)), .o (.list done)])
        (c := [((n ++ [AO.list done]) ++ gi)[i]? = some (.list done), ClOK K m 563 [.obj (.c 6), .int (.ofNat (j + 1))] (hp q x d ((n ++ [.list done]) ++ gi)) (T j) (hp q x d (((n ++ [.list done]) ++ gi) ++ g)), (((n ++ [AO.list done]) ++ gi) ++ g)[i]? = some (.list done), done.length < 1000000])
        (hs' := []) (by kernel_rfl) ⟨a1, R, a2, by omega, trivial⟩ C I kk
    refine .nxt (hr _) (fun C I kk => ExOK.post B (loc2 := plL k i) (by exact ⟨rfl, rfl, rfl, trivial⟩) C I kk) T'
end
end Mine
end

section
set_option maxRecDepth 100000
set_option autoImplicit false
set_option tactic.hygienic false
namespace Mine
open PySem PySem.W PySem.Calls PyProof.Rows
theorem gAttrs_get {U : List Nd} {i : Nat} (h : i ≤ U.length) : (gAttrs U)[i]? = some (.obj (.d (2 * i))) := by
  unfold gAttrs
  rw [List.getElem?_map, List.getElem?_range (by omega)]; rfl
section
variable {K : Frag} (OK : PrOK K PP) {z : Z} {o : Str} {x : X} {q : Pre}
include OK
theorem plain_ok (hkid : ∀ (i : Nat) (nd : Nd), z.U[i]? = some nd → ∀ j ∈ nd.kids, i < j ∧ j < z.U.length) (hsz : ∀ (i : Nat) (nd : Nd), z.U[i]? = some nd → nd.kids.length < 900000) : ∀ (f k : Nat), z.U.length ≤ k + f → k < z.U.length → ∀ n, ∃ g,
    ClOK K (20 + 12 * f) 563 [.obj (.c 6), .int (.ofNat (k + 1))] (hp q (xB z o x) (gD z.U) n) (tupG z.U f k) (hp q (xB z o x) (gD z.U) (n ++ g))
  | 0, k, h, hk, _ => by omega
  | f + 1, k, h, hk, n => by
    have e := List.getElem?_eq_getElem hk
    generalize z.U[k] = nd at e
    have e1 : (gD z.U)[2 * (k + 1) + 1]? = some (.list (gKd nd.kids)) := gD_get e
    obtain ⟨g', T⟩ := pl_turns OK (q := q) (x := xB z o x) (d := gD z.U) (m := 20 + 12 * f) (k := k + 1) (T := tupG z.U f) (items := gKd nd.kids) (r := .d (2 * (k + 1) + 1)) (fun _ => e1) nd.kids
      (fun j hj n => plain_ok hkid hsz f j (by have := hkid _ _ e j hj; omega) (hkid _ _ e j hj).2 n) n [] [] rfl (by simp; have := hsz _ _ e; omega)
    simp only [List.append_nil, List.nil_append] at T
    have ev : EvOK K (20 + 12 * f + 6) plF.scope (forI plW) (plL (k + 1) n.length) (hp q (xB z o x) (gD z.U) (n ++ [.list []])) (.obj (.d (2 * (k + 1) + 1))) (hp q (xB z o x) (gD z.U) (n ++ [.list []])) := by
      intro _ _ _ _ _ _ _ _ _ _ _ C I kk
      exact EvOK.up (run_ev OK (b := 0) (j := 10) (hs := [.v (.obj (.d (2 * (k + 1) + 1)))]) (c := [(gKids z.U)[k + 1]? = some (.obj (.d (2 * (k + 1) + 1)))]) (hs' := []) (loc' := plL (k + 1) n.length) (by kernel_rfl) ⟨gKids_get (by omega), trivial⟩) (by omega) C I kk
    have S : StOK K (20 + 12 * f + 6) plF.scope (.For (.Name "child" (forP plW)) (forI plW) (whB plW) [] (stPos plW)) (plL (k + 1) n.length) (hp q (xB z o x) (gD z.U) (n ++ [.list []])) .nxt (plL (k + 1) n.length) (hp q (xB z o x) (gD z.U) ((n ++ [AO.list (nd.kids.map (tupG z.U f))]) ++ g')) := by
      intro _ _ _ _ _ _ _ _ _ _ _ C I kk
      exact for_list (by decide +kernel) (by decide +kernel) ev e1 T C I kk
    have A : ClOK K (20 + 12 * f + 6) 556 [.obj (.c 6), .int (.ofNat (k + 1))] (hp q (xB z o x) (gD z.U) ((n ++ [AO.list (nd.kids.map (tupG z.U f))]) ++ g')) _ _ := ClOK.up (ao_ok OK (gAttrs_get (by omega)) (gD_get0 e)) (by omega)
    have ht : tupG z.U (f + 1) k = .tup [.str nd.kind, .str nd.space, .str nd.name, .tup [], .str nd.text, .tup (nd.kids.map (tupG z.U f)), .none] := by
      unfold tupG; rw [at_eq e]
    refine ⟨AO.list (nd.kids.map (tupG z.U f)) :: (g' ++ [AO.list []] ++ [AO.list []]), ?_⟩
    have en : n ++ AO.list (nd.kids.map (tupG z.U f)) :: (g' ++ [AO.list []] ++ [AO.list []]) = ((n ++ [AO.list (nd.kids.map (tupG z.U f))]) ++ g') ++ [AO.list []] ++ [AO.list []] := by simp
    rw [ht, en]
    have l1 : (((n ++ [AO.list (nd.kids.map (tupG z.U f))]) ++ g') ++ [AO.list []] ++ [AO.list []])[n.length]? = some (.list (nd.kids.map (tupG z.U f))) := get_app (get_app (get_app (get_len _ _) _) _) _
    exact run_call OK (b := 20 + 12 * f + 6) (j := 6)
      (hs := [.p .n, .w .nxt (plL (k + 1) n.length) (hp q (xB z o x) (gD z.U) ((n ++ [AO.list (nd.kids.map (tupG z.U f))]) ++ g')), .a, .v (.str nd.kind), .v (.str nd.space), .v (.str nd.name), .c 556 (.obj (.n (((n ++ [AO.list (nd.kids.map (tupG z.U f))]) ++ g') ++ [AO.list []]).length)) (hp q (xB z o x) (gD z.U) (((n ++ [AO.list (nd.kids.map (tupG z.U f))]) ++ g') ++ [AO.list []] ++ [AO.list []])), .o (.list []), .v (.str nd.text), .o (.list (nd.kids.map (tupG z.U f)))])
      (c := [StOK K (20 + 12 * f + 6) plF.scope (.For (.Name "child" (forP plW)) (forI plW) (whB plW) [] (stPos plW)) (plL (k + 1) n.length) (hp q (xB z o x) (gD z.U) (n ++ [.list []])) .nxt (plL (k + 1) n.length) (hp q (xB z o x) (gD z.U) ((n ++ [AO.list (nd.kids.map (tupG z.U f))]) ++ g')),
        (gKinds z.U)[k + 1]? = some (.str nd.kind), (gSpaces z.U)[k + 1]? = some (.str nd.space), (gNames z.U)[k + 1]? = some (.str nd.name), ClOK K (20 + 12 * f + 6) 556 [.obj (.c 6), .int (.ofNat (k + 1))] (hp q (xB z o x) (gD z.U) ((n ++ [AO.list (nd.kids.map (tupG z.U f))]) ++ g')) (.obj (.n (((n ++ [AO.list (nd.kids.map (tupG z.U f))]) ++ g') ++ [AO.list []]).length)) (hp q (xB z o x) (gD z.U) (((n ++ [AO.list (nd.kids.map (tupG z.U f))]) ++ g') ++ [AO.list []] ++ [AO.list []])),
        (((n ++ [AO.list (nd.kids.map (tupG z.U f))]) ++ g') ++ [AO.list []] ++ [AO.list []])[(((n ++ [AO.list (nd.kids.map (tupG z.U f))]) ++ g') ++ [AO.list []]).length]? = some (.list []), (gTexts z.U)[k + 1]? = some (.str nd.text), (((n ++ [AO.list (nd.kids.map (tupG z.U f))]) ++ g') ++ [AO.list []] ++ [AO.list []])[n.length]? = some (.list (nd.kids.map (tupG z.U f)))])
      (hs' := []) (loc' := []) (by kernel_rfl) ⟨S, gKinds_get e, gSpaces_get e, gNames_get e, A, get_len _ _, gTexts_get e, l1, trivial⟩
end
end Mine
end

section
set_option maxRecDepth 100000
set_option autoImplicit false
set_option linter.unusedVariables false
set_option tactic.hygienic false
namespace Mine
open PySem PySem.W PySem.Calls PyProof.Rows PySem.Builtin PySem.Builtin.Str
theorem ints_get : ∀ {vs : List Value} {xs : List Int}, IntsAre vs xs → ∀ (i : Nat) (x : Int), xs[i]? = some x → ∃ t, vs[i]? = some (.int x t)
  | _, _, .nil, i, x, h => by simp at h
  | _, _, .cons n t h', 0, x, h => by simp at h; subst h; exact ⟨t, rfl⟩
  | _, _, .cons n t h', i + 1, x, h => by
    obtain ⟨u, hu⟩ := ints_get h' i x (by simpa using h)
    exact ⟨u, by simpa using hu⟩
theorem ints_len : ∀ {vs : List Value} {xs : List Int}, IntsAre vs xs → vs.length = xs.length
  | _, _, .nil => rfl
  | _, _, .cons n t h => by simp [ints_len h]
noncomputable def scr (xs : List Int) (k : Nat) : Int := xs.getD k 0
noncomputable def ifeT : Expr → Expr
  | .IfExp t _ _ _ => t
  | _ => .Constant .none 0 default
noncomputable def ifeB : Expr → Expr
  | .IfExp _ b _ _ => b
  | _ => .Constant .none 0 default
noncomputable def ifeO : Expr → Expr
  | .IfExp _ _ o _ => o
  | _ => .Constant .none 0 default
noncomputable def ifeP : Expr → Pos
  | .IfExp _ _ _ p => p
  | _ => default
noncomputable def cmpR : Expr → Expr
  | .Compare _ _ (r :: _) _ => r
  | _ => .Constant .none 0 default
noncomputable def cmpP : Expr → Pos
  | .Compare _ _ _ p => p
  | _ => default
section
variable {K : Frag} (OK : PrOK K PP) {l : Nat} {xs : List Int} (Sc : Script K l xs) (hx : xs.length ≤ 63) {sc : Scope} {e : Expr} {loc : Loc} {ah : AH} {k : Nat}
include Sc hx in
theorem wv_len {n : Nat} : Wv K n [.fn l] (fun vs => call (.builtin "len") vs) ah (rV K (.int (Int.ofNat xs.length))) ah := by
  intro prog w A E s h₀ env sc loc φ N m vs Q C I hv kk
  obtain ⟨v, rfl, v1⟩ := Vs.one_inv hv
  have v1 : v = .ref l := v1
  subst v1
  obtain ⟨d, sl, nn, us, hl, hi⟩ := Sc
  have L : s.heap.IsList l us.toArray := ⟨_, I.fr.keep _ _ (C.kin _ _ hl), rfl, _, rfl⟩
  have hz := ints_len hi
  refine call_len_list L (by simp; omega) (kk _ _ _ _ _ I (Ext.refl ..) ⟨s.toks + 1, by simp [hz]⟩)
include OK Sc hx in
theorem scr_ev (he : e = .IfExp (.Compare (cmpL (ifeT e)) [.Lt] [.Call (callF (cmpR (ifeT e))) [callA (cmpR (ifeT e)) 0] [] (callP (cmpR (ifeT e)))] (cmpP (ifeT e))) (.Subscript (subO (ifeB e)) (subI (ifeB e)) (subP (ifeB e))) (ifeO e) (ifeP e))
    (h1 : (mk PP (OrS K 0) 10).ev sc (cmpL (ifeT e)) ⟨loc, ah, []⟩ = some ([], .int (Int.ofNat k), ⟨loc, ah, []⟩))
    (h2 : (mk PP (OrS K 0) 10).ev sc (callF (cmpR (ifeT e))) ⟨loc, ah, []⟩ = some ([], .bi "len", ⟨loc, ah, []⟩))
    (h3 : evL ((mk PP (OrS K 0) 10).ev sc) [callA (cmpR (ifeT e)) 0] ⟨loc, ah, []⟩ = some ([], [.fn l], ⟨loc, ah, []⟩))
    (h4 : (mk PP (OrS K 0) 10).ev sc (subO (ifeB e)) ⟨loc, ah, []⟩ = some ([], .fn l, ⟨loc, ah, []⟩))
    (h5 : (mk PP (OrS K 0) 10).ev sc (subI (ifeB e)) ⟨loc, ah, []⟩ = some ([], .int (Int.ofNat k), ⟨loc, ah, []⟩))
    (h6 : (mk PP (OrS K 0) 10).ev sc (ifeO e) ⟨loc, ah, []⟩ = some ([], .int 0, ⟨loc, ah, []⟩))
    (n1 : ∀ o x p, callF (cmpR (ifeT e)) ≠ .Attribute o x p) (n2 : noSlice (subI (ifeB e)) = true) (n3 : behindInMarks .Lt (.Call (callF (cmpR (ifeT e))) [callA (cmpR (ifeT e)) 0] [] (callP (cmpR (ifeT e)))) = false) :
    EvS K 10 sc e loc ah (.int (scr xs k)) ah := by
  have he' := (snd_mk OK (OrS.ok K 0) 10).1
  have a1 : EvOK K 10 sc (cmpL (ifeT e)) loc ah (.int (Int.ofNat k)) ah := fun C I kk => (he' _ _ _ _ _ _ h1 AllP.nil).2 C I kk
  have a2 : EvOK K 10 sc (callF (cmpR (ifeT e))) loc ah (.bi "len") ah := fun C I kk => (he' _ _ _ _ _ _ h2 AllP.nil).2 C I kk
  have a3 : ArOK K 10 sc [callA (cmpR (ifeT e)) 0] loc ah [.fn l] ah := (snd_args (sc := sc) he' _ h3 AllP.nil).2
  have a4 : EvOK K 10 sc (subO (ifeB e)) loc ah (.fn l) ah := fun C I kk => (he' _ _ _ _ _ _ h4 AllP.nil).2 C I kk
  have a5 : EvOK K 10 sc (subI (ifeB e)) loc ah (.int (Int.ofNat k)) ah := fun C I kk => (he' _ _ _ _ _ _ h5 AllP.nil).2 C I kk
  have a6 : EvOK K 10 sc (ifeO e) loc ah (.int 0) ah := fun C I kk => (he' _ _ _ _ _ _ h6 AllP.nil).2 C I kk
  have ln : EvOK K 10 sc (.Call (callF (cmpR (ifeT e))) [callA (cmpR (ifeT e)) 0] [] (callP (cmpR (ifeT e)))) loc ah (.int (Int.ofNat xs.length)) ah := by
    intro _ _ _ _ _ _ _ _ _ _ _ C I kk
    exact snd_callF (ev := (mk PP (OrS K 0) 10).ev) (v := .builtin "len") n1 a2 a3 (evL_ns h3) (fun φ N u h => h) (keeps_M0 fun a q => by cases q) (wv_len Sc hx) C I kk
  have ts : TsOK K 10 sc (.Compare (cmpL (ifeT e)) [.Lt] [.Call (callF (cmpR (ifeT e))) [callA (cmpR (ifeT e)) 0] [] (callP (cmpR (ifeT e)))] (cmpP (ifeT e))) loc ah (decide ((Int.ofNat k) < Int.ofNat xs.length)) ah := by
    intro prog w A E s h₀ env φ N m Q C I kk
    refine wpAny_isTrue_Compare1 (a1 C I fun φ' N' u h' tk I' X' hu => ?_) n3
    refine ln (s := ⟨h', s.gens, s.drawn, tk, s.os⟩) C I' fun φ'' N'' v h'' tk' I'' X'' hv => ?_
    have e3 : Wv K 10 [.int (Int.ofNat k), .int (Int.ofNat xs.length)] (t2 (compareOp .Lt)) ah (isB (decide ((Int.ofNat k) < Int.ofNat xs.length))) ah := fun C I hv kk => (snd_cmp (K := K) (n := 10) OK (op := .Lt) (a := .int (Int.ofNat k)) (b := .int (Int.ofNat xs.length)) (st := ⟨loc, ah, []⟩) (c := []) (st' := ⟨loc, ah, []⟩) rfl AllP.nil).2 C I hv kk
    refine e3 (s := ⟨h'', s.gens, s.drawn, tk', s.os⟩) (vs := [u, v]) C I'' ⟨u, [v], rfl, V.stay (X''.stay I'.hr) _ _ hu, v, [], rfl, hv, rfl⟩ fun φ3 N3 x h3' tk3 I3 X3 hx => ?_
    have hx : x = .bool (decide ((Int.ofNat k) < Int.ofNat xs.length)) := hx
    subst hx
    exact wpAny_truthy_bool (kk _ _ _ _ I3 ((X'.trans X'').trans X3))
  rw [he]
  by_cases hk : k < xs.length
  · have hd : decide ((Int.ofNat k) < Int.ofNat xs.length) = true := decide_eq_true (by show (k : Int) < (xs.length : Int); omega)
    rw [hd] at ts
    have sub : EvOK K 10 sc (.Subscript (subO (ifeB e)) (subI (ifeB e)) (subP (ifeB e))) loc ah (.int (scr xs k)) ah := by
      intro prog w A E s h₀ env φ N m Q C I kk
      refine wpAny_Sub (T := "") (id := "") n2 (a4 C I fun φ' N' u h' tk I' X' hu => ?_)
      refine a5 (s := ⟨h', s.gens, s.drawn, tk, s.os⟩) C I' fun φ'' N'' v h'' tk' I'' X'' hv => ?_
      have hu : u = .ref l := hu
      subst hu
      obtain ⟨tt, rfl⟩ := V.int_inv hv
      obtain ⟨d, sl, nn, us, hl, hi⟩ := Sc
      have L : (⟨h'', s.gens, s.drawn, tk', s.os⟩ : Shared).heap.IsList l us.toArray := ⟨_, I''.fr.keep _ _ (C.kin _ _ hl), rfl, _, rfl⟩
      obtain ⟨t, ht⟩ := ints_get hi k (scr xs k) (by unfold scr; rw [List.getElem?_eq_getElem hk, List.getD_eq_getElem?_getD, List.getElem?_eq_getElem hk]; rfl)
      refine ⟨"list", _, L.typeIs, slot_list_getitem.lookup, ?_⟩
      exact wpAny_getItem_list L (by show (0 : Int) ≤ (k : Int); omega) (by show (k : Int) < _; omega) (by simpa using ht) (kk _ _ _ _ _ I'' (X'.trans X'') ⟨_, rfl⟩)
    constructor
    intro _ _ _ _ _ _ _ _ _ _ _ C I kk
    exact EvOK.ifE (c := true) ts sub C I kk
  · have hd : decide ((Int.ofNat k) < Int.ofNat xs.length) = false := decide_eq_false (by show ¬ (k : Int) < (xs.length : Int); omega)
    rw [hd] at ts
    have h0 : scr xs k = 0 := by unfold scr; rw [List.getD_eq_getElem?_getD, List.getElem?_eq_none (by omega)]; rfl
    rw [h0]
    constructor
    intro _ _ _ _ _ _ _ _ _ _ _ C I kk
    exact EvOK.ifE (c := false) ts a6 C I kk
end
end Mine
end

section
set_option maxRecDepth 100000
set_option autoImplicit false
set_option linter.unusedVariables false
set_option tactic.hygienic false
namespace Mine
open PySem PySem.W PySem.Calls PyProof.Rows PySem.Builtin PySem.Builtin.Str
noncomputable def lwF : FI := fiOf (topAt 90) []
noncomputable def p8W : Stmt := stAt lwF.body 2
noncomputable def binR : Expr → Expr
  | .BinOp _ _ b _ => b
  | _ => .Constant .none 0 default
noncomputable def ifE1 : Expr := binR (binL (subI (callA (asV (stAt (whB p8W) 1)) 0)))
noncomputable def bs : Nat → Int
  | 0 => 0
  | 1 => 2
  | 2 => 9
  | 3 => 10
  | 4 => 4
  | 5 => 1
  | 6 => 8
  | _ => 7
noncomputable def ix (xs : List Int) (k : Nat) : Nat := ((bs k + scr xs k).fmod 12).toNat
theorem ix_eq (xs : List Int) (k : Nat) : (bs k + scr xs k).fmod 12 = .ofNat (ix xs k) := by
  have := Int.fmod_nonneg_of_pos (bs k + scr xs k) (b := 12) (by decide)
  show _ = ((ix xs k : Nat) : Int)
  unfold ix
  omega
theorem ix_lt (xs : List Int) (k : Nat) : ix xs k < 12 := by
  have := Int.fmod_lt_of_pos (bs k + scr xs k) (b := 12) (by decide)
  unfold ix
  omega
noncomputable def ixs (xs : List Int) (k : Nat) : List Nat := (List.range k).map (ix xs)
theorem ixs_succ (xs : List Int) (k : Nat) : ixs xs (k + 1) = ixs xs k ++ [ix xs k] := by
  unfold ixs; rw [List.range_succ]; simp
noncomputable def tbG : List GV := (List.range 12).map fun i => .str (txt (partC i))
noncomputable abbrev lwL0 (l : Nat) : Loc := [("parts", .obj (.c 0)), ("table", .tup tbG), ("script", .fn l)]
theorem lt8 {i : Nat} (h : i < 8) : i = 0 ∨ i = 1 ∨ i = 2 ∨ i = 3 ∨ i = 4 ∨ i = 5 ∨ i = 6 ∨ i = 7 := (by decide +kernel : ∀ i, i < 8 → i = 0 ∨ i = 1 ∨ i = 2 ∨ i = 3 ∨ i = 4 ∨ i = 5 ∨ i = 6 ∨ i = 7) i h
noncomputable abbrev pAH (is : List Nat) : AH := ⟨[.list (gParts is)], [], []⟩
/-- the judgement, boxed -/
structure ExOne (K : Frag) (n : Nat) (sc : Scope) (ss : Stmt) (loc : Loc) (ah : AH) (fl : Fl) (loc' : Loc) (ah' : AH) : Prop where
  go : StOK K n sc ss loc ah fl loc' ah'
theorem run_st {K : Frag} {P : Pr} (OK : PrOK K P) {b j : Nat} {sc : Scope} {s : Stmt} {loc loc' : Loc} {ah ah' : AH} {hs hs' : List H} {c : List Prop} {fl : Fl}
    (h : ex1S P (OrS K b) (mk P (OrS K b) j) sc s ⟨loc, ah, hs⟩ = some (c, fl, ⟨loc', ah', hs'⟩)) (hc : Ands c) : StOK K (b + j) sc s loc ah fl loc' ah' := by
  obtain ⟨he, ht, hx, hcl, hw⟩ := snd_mk OK (OrS.ok K b) j
  have OO' : OrOK K (b + j) (OrS K b) := ⟨fun _ _ _ _ _ h => ClOK.up h (Nat.le_add_right _ _), fun _ _ _ _ _ _ h => EvOK.up h (Nat.le_add_right _ _), fun _ _ _ _ _ _ _ h => StOK.up h (Nat.le_add_right _ _)⟩
  intro _ _ _ _ _ _ _ _ _ _ _ C I kk
  exact snd_ex1 OK OO' he ht hx hw h hc.all C I kk
section
variable {K : Frag} {n m : Nat} {sc : Scope} {s : Stmt} {ss : List Stmt} {loc loc1 loc2 : Loc} {ah ah1 ah2 : AH} {fl : Fl}
theorem run_stS {P : Pr} (OK : PrOK K P) {b j : Nat} {hs hs' : List H} {c : List Prop}
    (h : ex1S P (OrS K b) (mk P (OrS K b) j) sc s ⟨loc, ah, hs⟩ = some (c, fl, ⟨loc1, ah1, hs'⟩)) (hc : Ands c) : ExOne K (b + j) sc s loc ah fl loc1 ah1 := ⟨run_st OK h hc⟩
theorem run_exS {P : Pr} (OK : PrOK K P) {b j : Nat} {hs hs' : List H} {c : List Prop}
    (h : (mk P (OrS K b) j).ex sc ss ⟨loc, ah, hs⟩ = some (c, fl, ⟨loc1, ah1, hs'⟩)) (hc : Ands c) : ExS K (b + j) sc ss loc ah fl loc1 ah1 := ⟨run_ex OK h hc⟩
theorem ExOne.cons (a : ExOne K n sc s loc ah .nxt loc1 ah1) (b : ExS K n sc ss loc1 ah1 fl loc2 ah2) : ExS K n sc (s :: ss) loc ah fl loc2 ah2 := ⟨ExOK.cons a.go b.go⟩
theorem ExOne.ex (a : ExOne K n sc s loc ah fl loc1 ah1) : ExS K n sc [s] loc ah fl loc1 ah1 := ⟨StOK.ofEx a.go⟩
theorem ExOne.up (a : ExOne K n sc s loc ah fl loc1 ah1) (h : n ≤ m) : ExOne K m sc s loc ah fl loc1 ah1 := ⟨StOK.up a.go h⟩
theorem ExS.post (a : ExS K n sc ss loc ah fl loc1 ah1) (w : LocLe loc2 loc1) : ExS K n sc ss loc ah fl loc2 ah1 := ⟨ExOK.post a.go w⟩
theorem EvS.up {e : Expr} {g : GV} (a : EvS K n sc e loc ah g ah1) (h : n ≤ m) : EvS K m sc e loc ah g ah1 := ⟨EvOK.up a.go h⟩
theorem TnOK.nxtS {x : Str} {chk : AH → Prop} {g : GV} {gs : List GV} (c : chk ah) (B : ExS K n sc ss ((x, g) :: loc) ah .nxt loc1 ah1) (T : TnOK K n sc x ss chk gs loc1 ah1 fl loc2 ah2) : TnOK K n sc x ss chk (g :: gs) loc ah fl loc2 ah2 := .nxt c B.go T
end
section
variable {K : Frag} (OK : PrOK K PP) {l : Nat} {xs : List Int} (Sc : Script K l xs) (hx : xs.length ≤ 63)
include OK Sc hx
set_option linter.unusedSectionVars false
theorem p8_ev (k : Nat) (hk : k < 8) (is : List Nat) : EvS K 10 lwF.scope ifE1 (("base", .int (bs k)) :: ("k", .int (.ofNat k)) :: lwL0 l) (pAH is) (.int (scr xs k)) (pAH is) :=
  scr_ev OK Sc hx (by kernel_rfl) (by kernel_rfl) (by kernel_rfl) (by kernel_rfl) (by kernel_rfl) (by kernel_rfl) (by kernel_rfl) (by
    have z : (match callF (cmpR (ifeT ifE1)) with | .Attribute .. => true | _ => false) = false := by kernel_rfl
    intro o x p h
    rw [h] at z; cases z) (by decide +kernel) (by decide +kernel)
theorem p8_s0 (k : Nat) (hk : k < 8) (ah : AH) : ExOne K 20 lwF.scope (stAt (whB p8W) 0) (("k", .int (.ofNat k)) :: lwL0 l) ah .nxt (("base", .int (bs k)) :: ("k", .int (.ofNat k)) :: lwL0 l) ah := by
  rcases lt8 hk with rfl | rfl | rfl | rfl | rfl | rfl | rfl | rfl <;> exact run_stS OK (b := 0) (j := 20) (hs := []) (c := []) (hs' := []) (by kernel_rfl) trivial
theorem p8_s1 (k : Nat) (is : List Nat) (i : Nat) (hi : i < 12) (e : EvS K 10 lwF.scope ifE1 (("base", .int (bs k)) :: ("k", .int (.ofNat k)) :: lwL0 l) (pAH is) (.int (scr xs k)) (pAH is)) (hv : (bs k + scr xs k).fmod 12 = .ofNat i) (hl : is.length < 1000) :
    ExOne K 30 lwF.scope (stAt (whB p8W) 1) (("base", .int (bs k)) :: ("k", .int (.ofNat k)) :: lwL0 l) (pAH is) .nxt (("base", .int (bs k)) :: ("k", .int (.ofNat k)) :: lwL0 l) (pAH (is ++ [i])) := by
  have hg : gParts (is ++ [i]) = gParts is ++ [.str (txt (partC i))] := by simp
  have q : pAH (is ++ [i]) = ⟨[.list (gParts is ++ [.str (txt (partC i))])], [], []⟩ := by rw [pAH, hg]
  rw [q]
  have R : ex1S PP (OrS K 10) (mk PP (OrS K 10) 20) lwF.scope (stAt (whB p8W) 1) ⟨("base", .int (bs k)) :: ("k", .int (.ofNat k)) :: lwL0 l, pAH is, [.e (.int (scr xs k)) (pAH is), .i (bs k + scr xs k), .i (.ofNat i)]⟩ =
      some ([EvOK K 10 lwF.scope ifE1 (("base", .int (bs k)) :: ("k", .int (.ofNat k)) :: lwL0 l) (pAH is) (.int (scr xs k)) (pAH is), bs k + scr xs k = bs k + scr xs k, (bs k + scr xs k).fmod 12 = .ofNat i, (gParts is).length < 1000000], .nxt,
        ⟨("base", .int (bs k)) :: ("k", .int (.ofNat k)) :: lwL0 l, ⟨[.list (gParts is ++ [.str (txt (partC i))])], [], []⟩, []⟩) := by
    generalize bs k = b
    generalize scr xs k = v
    rcases lt12 hi with rfl | rfl | rfl | rfl | rfl | rfl | rfl | rfl | rfl | rfl | rfl | rfl <;> kernel_rfl
  exact run_stS OK R ⟨e.go, rfl, hv, by simp; omega, trivial⟩
theorem p8_turn (k : Nat) (hk : k < 8) (is : List Nat) (i : Nat) (hi : i < 12) (hv : (bs k + scr xs k).fmod 12 = .ofNat i) (hl : is.length < 1000) :
    ExS K 30 lwF.scope (whB p8W) (("k", .int (.ofNat k)) :: lwL0 l) (pAH is) .nxt (lwL0 l) (pAH (is ++ [i])) := by
  have a := p8_s0 OK Sc hx (l := l) k hk (pAH is)
  have b := p8_s1 OK Sc hx k is i hi (p8_ev OK Sc hx k hk is) hv hl
  have w : LocLe (lwL0 l) (("base", .int (bs k)) :: ("k", .int (.ofNat k)) :: lwL0 l) := ⟨by kernel_rfl, by kernel_rfl, by kernel_rfl, trivial⟩
  have sh : whB p8W = [stAt (whB p8W) 0, stAt (whB p8W) 1] := by kernel_rfl
  rw [sh]
  exact ((a.up (by decide)).cons b.ex).post w
theorem p8_turns : ∀ (n k : Nat), k + n = 8 → TnOK K 30 lwF.scope "k" (whB p8W) (fun _ => True) (intsG (.ofNat k) n) (lwL0 l) (pAH (ixs xs k)) .nxt (lwL0 l) (pAH (ixs xs (k + n)))
  | 0, k, h => .nil trivial
  | n + 1, k, h => by
    have T := p8_turns n (k + 1) (by omega)
    have B := p8_turn OK Sc hx k (by omega) (ixs xs k) (ix xs k) (ix_lt xs k) (ix_eq xs k) (by simp [ixs]; omega)
    rw [ixs_succ, show k + 1 + n = k + (n + 1) by omega] at T
    have e : intsG (.ofNat k) (n + 1) = .int (.ofNat k) :: intsG (.ofNat (k + 1)) n := rfl
    rw [e]
    generalize pAH (ixs xs (k + (n + 1))) = Z at T ⊢
    generalize pAH (ixs xs k ++ [ix xs k]) = Y at T B
    generalize pAH (ixs xs k) = X at B ⊢
    exact TnOK.nxtS trivial B T
end
end Mine
end

section
set_option maxRecDepth 100000
set_option autoImplicit false
set_option linter.unusedVariables false
set_option linter.unusedSectionVars false
set_option tactic.hygienic false
namespace Mine
open PySem PySem.W PySem.Calls PyProof.Rows PySem.Builtin PySem.Builtin.Str
theorem txt_app (a b : List Nat) : txt a ++ txt b = txt (a ++ b) := by
  show Str.mk (a.toArray ++ b.toArray) = Str.mk (a ++ b).toArray
  simp
theorem join_flat : ∀ is : List Nat, Str.join "" (is.map fun i => txt (partC i)) = txt (flat is)
  | [] => rfl
  | [i] => by
    show txt (partC i) = txt (partC i ++ [])
    rw [List.append_nil]
  | i :: j :: r => by
    show (txt (partC i) ++ txt []) ++ Str.join "" ((j :: r).map fun i => txt (partC i)) = txt (partC i ++ flat (j :: r))
    rw [join_flat (j :: r), txt_app, List.append_nil, txt_app]
theorem strs_of {K : Frag} {φ : Phi} {N : Led} : ∀ {is : List Nat} {vs : List Value}, Vs K φ N (gParts is) vs → StrsAre vs (is.map fun i => txt (partC i))
  | [], vs, h => by
    have h : vs = [] := h
    subst h; exact .nil
  | i :: is, vs, h => by
    obtain ⟨v, r, rfl, hv, hr⟩ := h
    obtain ⟨t, rfl⟩ := V.str_inv hv
    exact .cons _ t (strs_of hr)
theorem parts_len (is : List Nat) (h : ∀ i ∈ is, i < 12) : ((is.map fun i => txt (partC i)).map (·.length)).sum ≤ 20 * is.length := by
  induction is with
  | nil => exact Nat.le_refl _
  | cons i is ih =>
    have := ih fun j hj => h j (.tail _ hj)
    have := len_ok i (h i (.head _))
    simp only [List.map_cons, List.sum_cons, List.length_cons]
    omega
theorem ixs_lt (xs : List Int) (k : Nat) : ∀ i ∈ ixs xs k, i < 12 := fun i hi => by
  obtain ⟨j, _, rfl⟩ := List.mem_map.mp hi
  exact ix_lt xs j
theorem ixs_len (xs : List Int) (k : Nat) : (ixs xs k).length = k := by simp [ixs]
noncomputable def txE : Expr := asV (stAt lwF.body 3)
section
variable {K : Frag} {n : Nat} {sc : Scope} {s : Stmt} {loc loc1 loc2 : Loc} {ah ah1 t : AH}
theorem ExOne.forget (h : ExOne K n sc s loc ah .nxt loc1 ah1) (u : Cut t ah1) (lc : ah.c.length ≤ t.c.length) (ld : ah.d.length ≤ t.d.length) (ln : ah.n.length ≤ t.n.length)
    (i : ∀ r o, t.get r = some o → oIn t o) (w : LocLe loc2 loc1) (wi : ∀ x g, loc2.lookup x = some g → gIn t g) : ExOne K n sc s loc ah .nxt loc2 t := by
  constructor
  intro prog w' A E s h₀ env φ N m Q C I k
  refine h.go C I fun φ' N' m' f h' tk I' X' hf => ?_
  have H := I'.hr.cut u i
  refine k (cutP φ' t) N' m' f h' tk ⟨I'.fr, I'.nw, H, fun x g e => ?_⟩ ⟨⟨take_pre X'.pre.c (by rw [I.hr.lc]; exact lc), take_pre X'.pre.d (by rw [I.hr.ld]; exact ld), take_pre X'.pre.n (by rw [I.hr.ln]; exact ln)⟩, X'.keep, fun a ha => X'.new a ((foot_cut u).subset ha), X'.old⟩ hf
  obtain ⟨v, a, b⟩ := I'.lc x g (w.look e)
  exact ⟨v, a, V.cut (t := t) cutP_get _ _ (wi x g e) b⟩
end
section
variable {K : Frag} (OK : PrOK K PP) {l : Nat} {xs : List Int} (Sc : Script K l xs) (hx : xs.length ≤ 63)
include OK
theorem joinS_ev {sc : Scope} {e a : Expr} {loc : Loc} {ah : AH} {apos pos : Pos} {r : Rf} (is : List Nat) (h : ∀ i ∈ is, i < 12) (hl : is.length ≤ 1000) (q1 : isSuperCall e = false) (q3 : (apos.endLine == pos.line) = true)
    (h1 : (mk PP (OrS K 0) 10).ev sc e ⟨loc, ah, []⟩ = some ([], .str "", ⟨loc, ah, []⟩)) (z : evL ((mk PP (OrS K 0) 10).ev sc) [a] ⟨loc, ah, []⟩ = some ([], [.obj r], ⟨loc, ah, []⟩)) (hr : ah.get r = some (.list (gParts is))) :
    EvS K 10 sc (.Call (.Attribute e "join" apos) [a] [] pos) loc ah (.str (txt (flat is))) ah := by
  have he := (snd_mk OK (OrS.ok K 0) 10).1
  have a1 := he sc e ⟨loc, ah, []⟩ [] (.str "") ⟨loc, ah, []⟩ h1 AllP.nil
  have b := (snd_args (sc := sc) he [a] z AllP.nil).2
  constructor
  intro prog w A E s h₀ env φ N m Q C I k
  refine wpAny_methodCall q1 q3 (Nat.lt_of_lt_of_le (Nat.lt_succ_self 1) (by decide)) (star_all (evL_ns z)) (a1.2 C I fun φ' N' u h' tk I' X' hu pl => ?_)
  obtain ⟨t, rfl⟩ := V.str_inv hu
  refine GM.join ?_
  refine b.callWith (s := ⟨h', s.gens, s.drawn, tk, s.os⟩) (evL_ns z) C I' (keeps_M0 fun a q => by cases q) fun φ'' N'' vs h'' tk' I'' X'' hvs => ?_
  obtain ⟨v, rfl, v1⟩ := Vs.one_inv hvs
  obtain ⟨p, ws, c, hp, rfl, hm, hx, L⟩ := Li.list (s := ⟨h'', s.gens, s.drawn, tk', s.os⟩) I'' (i := r) (xs := gParts is) hr v1
  refine join_listW (s := ⟨h'', s.gens, s.drawn, tk', s.os⟩) L (strs_of hx) (by decide +kernel) ?_ fun t' k' => ?_
  · have := parts_len is h
    simp only [List.length_map] at this ⊢
    omega
  · have e : Txt.join "" (is.map fun i => txt (partC i)) = txt (flat is) := by
      rw [← join_flat is]
      exact beq_iff_eq.mp (join_plain_closes _ _)
    rw [e]
    exact k _ _ _ _ _ I'' (X'.trans X'') ⟨_, rfl⟩
theorem tx_ev (is : List Nat) (h : ∀ i ∈ is, i < 12) (hl : is.length ≤ 1000) : EvS K 10 lwF.scope txE (lwL0 l) (pAH is) (.str (txt (flat is))) (pAH is) := by
  have sh : txE = .Call (.Attribute (attO (callF txE)) "join" (attP (callF txE))) [callA txE 0] [] (callP txE) := by kernel_rfl
  rw [sh]
  exact joinS_ev OK is h hl (by decide +kernel) (by decide +kernel) (by kernel_rfl) (by kernel_rfl) (r := .c 0) rfl
noncomputable def p8E : Expr := callA (forI p8W) 0
include Sc hx in
theorem s2_ok : ExOne K 40 lwF.scope (stAt lwF.body 2) (lwL0 l) (pAH []) .nxt (lwL0 l) (pAH (ixs xs 8)) := by
  have sh : stAt lwF.body 2 = .For (.Name "k" (forP p8W)) (.Call (.Name "range" (nmPos (callF (forI p8W)))) [p8E] [] (callP (forI p8W))) (whB p8W) [] (stPos p8W) := by kernel_rfl
  rw [sh]
  have ev : EvS K 10 lwF.scope p8E (lwL0 l) (pAH []) (.int (8 : Nat)) (pAH []) := ⟨run_ev OK (b := 0) (j := 10) (hs := []) (c := []) (hs' := []) (loc' := lwL0 l) (by kernel_rfl) trivial⟩
  have T := p8_turns OK Sc hx 8 0 rfl
  have e0 : pAH (ixs xs 0) = pAH [] := rfl
  rw [e0] at T
  have ev' : EvS K 30 lwF.scope p8E (lwL0 l) (pAH []) (.int (8 : Nat)) (pAH []) := ev.up (by decide)
  exact ExOne.up ⟨for_range OK (by decide +kernel) (by decide +kernel) (by kernel_rfl) (by
    have z : (match p8E with | .Starred .. => true | _ => false) = false := by kernel_rfl
    intro y p h
    rw [h] at z; cases z) ev'.go (by decide) T⟩ (by decide)
noncomputable abbrev lwL4 (l : Nat) (tx : List Nat) : Loc := [("faults", .obj (.c 3)), ("errors", .obj (.c 2)), ("root", .obj (.n 1)), ("text", .str (txt tx)), ("script", .fn l)]
/-- the reading's lists, as they stand after it -/
noncomputable abbrev qOf (is : List Nat) : Pre := ⟨.list (gParts is), .list (gStk (z0.rds is).S), .list (gErs (z0.rdEs 0 is)), .list (gFau (z0.rds is).raw)⟩
noncomputable abbrev bAH (q : Pre) (U : List Nd) : AH := ⟨[q.p0, q.p1, q.p2, q.p3], [], gRN U⟩
end
end Mine
end

section
set_option maxRecDepth 100000
set_option autoImplicit false
set_option linter.unusedVariables false
set_option linter.unusedSectionVars false
set_option tactic.hygienic false
namespace Mine
open PySem PySem.W PySem.Calls PyProof.Rows
theorem path_done {tx : List Nat} {N : Nat} {c c' : Cf} (P : Path tx N c c') (h : tx.length ≤ c.p) : c = c' := by
  cases P with
  | nil => rfl
  | cons s _ =>
    exfalso
    cases s with
    | one h1 =>
      have := get_lt h1
      dsimp only at h
      omega
    | cd h1 h2 =>
      have := get_lt (h2 0 _ rfl)
      dsimp only at h
      omega
    | com h1 h2 =>
      have := get_lt (h2 0 _ rfl)
      dsimp only at h
      omega
theorem partC_ok (i : Nat) (hi : i < 12) : ∀ c ∈ partC i, c ∈ okC := by
  rcases lt12 hi with rfl | rfl | rfl | rfl | rfl | rfl | rfl | rfl | rfl | rfl | rfl | rfl <;> decide
theorem flat_ok (is : List Nat) (h : ∀ i ∈ is, i < 12) : ∀ c ∈ flat is, c ∈ okC := fun c hc => by
  obtain ⟨i, hi, hc⟩ := List.mem_flatMap.mp hc
  exact partC_ok i (h i hi) c hc
theorem partC_len (i : Nat) (hi : i < 12) : (partC i).length ≤ 20 := by
  rcases lt12 hi with rfl | rfl | rfl | rfl | rfl | rfl | rfl | rfl | rfl | rfl | rfl | rfl <;> decide
theorem flat_len (is : List Nat) (h : ∀ i ∈ is, i < 12) : (flat is).length ≤ 20 * is.length := by
  induction is with
  | nil => exact Nat.le_refl _
  | cons i is ih =>
    have := ih fun j hj => h j (.tail _ hj)
    have := partC_len i (h i (.head _))
    have e : (flat (i :: is)).length = (partC i).length + (flat is).length := by simp [flat]
    rw [e, List.length_cons]
    omega
/-- where the feeding stands: so many signs fed -/
noncomputable def LpS (q : Pre) (rn : List AO) (tx : List Nat) (N0 : Nat) (cN : Cf) (a : Nat) (ah : AH) : Prop :=
  ∃ c N' out wt, Path tx N' c cN ∧ N' ≤ N0 ∧ CfH q rn (sgOf (tx.take a)) false wt c out ah ∧ WF c.z (1 + 300 * (N0 - N')) ∧ out.length ≤ 3 * (N0 - N') ∧ c.er.length ≤ N0 - N'
theorem take_min {α : Type} (l : List α) (a : Nat) : l.take (min a l.length) = l.take a := by
  rcases Nat.le_total a l.length with h | h
  · rw [Nat.min_eq_left h]
  · rw [Nat.min_eq_right h, List.take_of_length_le h, List.take_length]
section
variable {K : Frag} (OK : PrOK K PP) {q : Pre} {rn : List AO} {tx : List Nat} {N0 : Nat} {cN : Cf}
include OK
theorem lp_step (hok : ∀ c ∈ tx, c ∈ okC) (hl : tx.length ≤ 200) (hN : N0 ≤ 500) (hp : cN.p = tx.length) {a sz : Nat} {ah : AH} (H : LpS q rn tx N0 cN a ah) :
    ∃ ah1 ah2, ClOK K 80 940 [gT, .str (txt ((tx.drop a).take sz))] ah .none ah1 ∧ ClOK K 300 35 [gT, gB] ah1 .none ah2 ∧ LpS q rn tx N0 cN (a + sz) ah2 ∧
      (tx.length ≤ a + sz → ∃ k out wt, CfH q rn (sgOf tx) false wt cN out ah2 ∧ WF cN.z k ∧ k ≤ 200000 ∧ out.length ≤ 1500) := by
  obtain ⟨c, N', out, wt, P, hN', H, W, ho, he⟩ := H
  have hl1 : (sgOf (tx.take a)).length ≤ 200 := by simp [sgOf]; omega
  have hl2 : ((tx.drop a).take sz).length ≤ 200 := by simp; omega
  obtain ⟨ah1, H1, R1⟩ := feed_piece OK (l := (tx.drop a).take sz) (fun c hc => hok c (List.mem_of_mem_drop (List.mem_of_mem_take hc))) H (by omega)
  have e1 : sgOf (tx.take a) ++ sgOf ((tx.drop a).take sz) = sgOf (tx.take (min (a + sz) tx.length)) := by
    rw [take_min, List.take_add]
    simp [sgOf]
  rw [e1] at H1
  obtain ⟨c', N'', out', ah2, wt', P2, hN2, H2, W2, ho2, he2, hm, R2⟩ := drive_ok OK (m := min (a + sz) tx.length) (Nat.min_le_right _ _) hp P H1 W (by omega) (by omega) (by omega)
  have k1 : 1 + 300 * (N0 - N') + 300 * (N' - N'') = 1 + 300 * (N0 - N'') := by omega
  rw [k1] at W2
  have H2' := H2
  rw [take_min] at H2
  refine ⟨ah1, ah2, R1, R2, ⟨c', N'', out', wt', P2, by omega, H2, W2, by omega, by omega⟩, fun hfull => ?_⟩
  rw [Nat.min_eq_right hfull] at hm H2'
  have hge : tx.length ≤ c'.p := hm.resolve_right (Nat.lt_irrefl _)
  have := path_done P2 hge
  subst this
  rw [List.take_length] at H2'
  exact ⟨_, out', wt', H2', W2, by omega, by omega⟩
end
end Mine
end

section
set_option maxRecDepth 100000
set_option autoImplicit false
set_option tactic.hygienic false
namespace Mine
open PySem PySem.W PySem.Calls PyProof.Rows PySem.Builtin PySem.Builtin.Str
theorem idx_clip (a b n : Nat) : strSliceIndices (some (a : Int)) (some (b : Int)) 1 n = strSliceIndices (some ((min a n : Nat) : Int)) (some ((min b n : Nat) : Int)) 1 n := by
  unfold strSliceIndices
  have h1 : ¬ ((a : Int) < 0) := by omega
  have h2 : ¬ ((b : Int) < 0) := by omega
  have h3 : ¬ (((min a n : Nat) : Int) < 0) := by omega
  have h4 : ¬ (((min b n : Nat) : Int) < 0) := by omega
  simp only [show ((1 : Int) > 0) = True from by simp, if_true, h1, h2, h3, h4, if_false]
  have e1 : min ((min a n : Nat) : Int) (n : Int) = min (a : Int) n := by omega
  have e2 : min ((min b n : Nat) : Int) (n : Int) = min (b : Int) n := by omega
  try rw [e1, e2]
theorem slice_txt (l : List Nat) (a s : Nat) : Txt.slice (txt l) (some (a : Int)) (some ((a + s : Nat) : Int)) = txt ((l.drop a).take s) := by
  have hlen : (txt l).length = l.length := by show l.toArray.size = _; simp
  have e : Txt.slice (txt l) (some (a : Int)) (some ((a + s : Nat) : Int)) = Txt.slice (txt l) (some ((min a l.length : Nat) : Int)) (some ((min (a + s) l.length : Nat) : Int)) := by
    unfold Txt.slice
    rw [hlen, idx_clip a (a + s) l.length]
  rw [e]
  have h := beq_iff_eq.mp (slice_closes (x := txt l) (i := ((min a l.length : Nat) : Int)) (j := ((min (a + s) l.length : Nat) : Int)) ⟨by omega, by omega, by show _ ≤ ((l.toArray.toList.length : Nat) : Int); simp; omega⟩)
  rw [h]
  show Str.mk (((l.toArray.toList.drop (min a l.length)).take (((min (a + s) l.length : Nat) : Int) - ((min a l.length : Nat) : Int)).toNat)).toArray = Str.mk ((l.drop a).take s).toArray
  congr 2
  have e3 : (((min (a + s) l.length : Nat) : Int) - ((min a l.length : Nat) : Int)).toNat = min (a + s) l.length - min a l.length := by omega
  rw [e3]
  show (l.drop (min a l.length)).take _ = _
  rcases Nat.le_total a l.length with h1 | h1
  · rw [Nat.min_eq_left h1]
    rcases Nat.le_total (a + s) l.length with h2 | h2
    · rw [Nat.min_eq_left h2, Nat.add_sub_cancel_left]
    · rw [Nat.min_eq_right h2, List.take_of_length_le (by simp), List.take_of_length_le (by simp; omega)]
  · rw [Nat.min_eq_right h1, List.drop_length, List.drop_eq_nil_of_le h1]; simp
theorem slice_all (l : List Nat) (a : Nat) : Txt.slice (txt l) (some (a : Int)) none = txt (l.drop a) := by
  have hlen : (txt l).length = l.length := by show l.toArray.size = _; simp
  have e : Txt.slice (txt l) (some (a : Int)) none = Txt.slice (txt l) (some (a : Int)) (some ((a + l.length : Nat) : Int)) := by
    unfold Txt.slice
    rw [hlen, StrLaws.sliceIdx_none_hi]
    have h1 := idx_clip a l.length l.length
    have h2 := idx_clip a (a + l.length) l.length
    rw [h1, h2, Nat.min_self, Nat.min_eq_right (show l.length ≤ a + l.length by omega)]
  rw [e, slice_txt, List.take_of_length_le (by simp)]
end Mine
end

section
set_option maxRecDepth 100000
set_option autoImplicit false
set_option linter.unusedVariables false
set_option linter.unusedSectionVars false
set_option tactic.hygienic false
namespace Mine
open PySem PySem.W PySem.Calls PyProof.Rows PySem.Builtin PySem.Builtin.Str
noncomputable def mnW : Stmt := stAt lwF.body 5
noncomputable def mnK : Stmt := stAt (whB mnW) 5
noncomputable def ifE2 : Expr := binR (binL (asV (stAt (whB mnK) 1)))
noncomputable def slP : Expr := callA (asV (stAt (whB mnK) 2)) 0
noncomputable def ss : Nat → Int
  | 0 => 8
  | 1 => 1
  | 2 => 13
  | 3 => 0
  | 4 => 7
  | 5 => 2
  | 6 => 11
  | 7 => 6
  | 8 => 3
  | _ => 9
noncomputable def sz (xs : List Int) (k : Nat) : Nat := ((ss k + scr xs (8 + k)).fmod 14).toNat
theorem sz_eq (xs : List Int) (k : Nat) : (ss k + scr xs (8 + k)).fmod 14 = .ofNat (sz xs k) := by
  have := Int.fmod_nonneg_of_pos (ss k + scr xs (8 + k)) (b := 14) (by decide)
  show _ = ((sz xs k : Nat) : Int)
  unfold sz
  omega
theorem lt10 {i : Nat} (h : i < 10) : i = 0 ∨ i = 1 ∨ i = 2 ∨ i = 3 ∨ i = 4 ∨ i = 5 ∨ i = 6 ∨ i = 7 ∨ i = 8 ∨ i = 9 := (by decide +kernel : ∀ i, i < 10 → i = 0 ∨ i = 1 ∨ i = 2 ∨ i = 3 ∨ i = 4 ∨ i = 5 ∨ i = 6 ∨ i = 7 ∨ i = 8 ∨ i = 9) i h
noncomputable abbrev LM (l : Nat) (tx : List Nat) (m : Nat) (a : Nat) : Loc := ("at", .int (.ofNat a)) :: ("t", gT) :: ("html", .int 1) :: ("builder", gB) :: ("many", .int (.ofNat m)) :: lwL4 l tx
noncomputable abbrev LK (l : Nat) (tx : List Nat) (m a k : Nat) : Loc := ("place", .int (.ofNat (8 + k))) :: ("k", .int (.ofNat k)) :: LM l tx m a
noncomputable abbrev LZ (l : Nat) (tx : List Nat) (m a k z : Nat) : Loc := ("size", .int (.ofNat z)) :: LK l tx m a k
section
variable {K : Frag} (OK : PrOK K PP) {l : Nat} {xs : List Int} (Sc : Script K l xs) (hx : xs.length ≤ 63) {q : Pre} {tx : List Nat} {m : Nat} {x : X} {d n : List AO}
include OK
include Sc hx in
theorem mk_ev (k a : Nat) (ah : AH) : EvS K 10 lwF.scope ifE2 (LK l tx m a k) ah (.int (scr xs (8 + k))) ah :=
  scr_ev OK Sc hx (by kernel_rfl) (by kernel_rfl) (by kernel_rfl) (by kernel_rfl) (by kernel_rfl) (by kernel_rfl) (by kernel_rfl) (by
    have z : (match callF (cmpR (ifeT ifE2)) with | .Attribute .. => true | _ => false) = false := by kernel_rfl
    intro o x p h
    rw [h] at z; cases z) (by decide +kernel) (by decide +kernel)
theorem sl_ev {e : Expr} {loc : Loc} {ah : AH} {a s : Nat} (hl : tx.length ≤ 1000) (he : e = .Subscript (subO e) (.Slice (some (sliL (subI e))) (some (sliU (subI e))) none (sliP (subI e))) (subP e))
    (h1 : (mk PP (OrS K 0) 10).ev lwF.scope (subO e) ⟨loc, ah, []⟩ = some ([], .str (txt tx), ⟨loc, ah, []⟩)) (h2 : (mk PP (OrS K 0) 10).ev lwF.scope (sliL (subI e)) ⟨loc, ah, []⟩ = some ([], .int (.ofNat a), ⟨loc, ah, []⟩))
    (h3 : (mk PP (OrS K 0) 10).ev lwF.scope (sliU (subI e)) ⟨loc, ah, [.i (.ofNat (a + s))]⟩ = some ([Int.ofNat a + Int.ofNat s = Int.ofNat (a + s)], .int (.ofNat (a + s)), ⟨loc, ah, []⟩)) (ht : ∀ o r, letTemporaryGo (subO e) o r = Pure.pure ()) :
    EvS K 10 lwF.scope e loc ah (.str (txt ((tx.drop a).take s))) ah := by
  rw [he, ← slice_txt]
  exact ⟨EvOK.slice_ss (run_ev OK h1 trivial) (run_ev OK h2 trivial) (run_ev OK h3 ⟨rfl, trivial⟩) (by have : (txt tx).length = tx.length := (by show tx.toArray.size = _; simp); rw [this]; exact Nat.le_trans hl (by decide +kernel)) ht⟩
theorem mk_sl (k a s : Nat) (ah : AH) (hl : tx.length ≤ 1000) : EvS K 10 lwF.scope slP (LZ l tx m a k s) ah (.str (txt ((tx.drop a).take s))) ah :=
  sl_ev OK hl (by kernel_rfl) (by kernel_rfl) (by kernel_rfl) (by kernel_rfl) (fun _ _ => by kernel_rfl)
include Sc hx in
theorem mk_turn (k : Nat) (hk : k < 10) (a s : Nat) (hs : (ss k + scr xs (8 + k)).fmod 14 = .ofNat s) (hl : tx.length ≤ 1000) {ah1 ah2 : AH}
    (R1 : ClOK K 80 940 [gT, .str (txt ((tx.drop a).take s))] (hp q x d n) .none ah1) (R2 : ClOK K 300 35 [gT, gB] ah1 .none ah2) :
    ExS K 310 lwF.scope (whB mnK) (("k", .int (.ofNat k)) :: LM l tx m a) (hp q x d n) .nxt (LM l tx m (a + s)) ah2 := by
  have e1 : EvS K 300 lwF.scope ifE2 (LK l tx m a k) (hp q x d n) (.int (scr xs (8 + k))) (hp q x d n) := (mk_ev OK Sc hx k a (hp q x d n)).up (by decide)
  have e2 : EvS K 300 lwF.scope slP (LZ l tx m a k s) (hp q x d n) (.str (txt ((tx.drop a).take s))) (hp q x d n) := (mk_sl OK k a s (hp q x d n) hl).up (by decide)
  have R : (mk PP (OrS K 300) 10).ex lwF.scope (whB mnK) ⟨("k", .int (.ofNat k)) :: LM l tx m a, hp q x d n, [.e (.int (scr xs (8 + k))) (hp q x d n), .i (ss k + scr xs (8 + k)), .i (.ofNat s), .e (.str (txt ((tx.drop a).take s))) (hp q x d n), .c 940 .none ah1, .c 35 .none ah2, .i (.ofNat (a + s))]⟩ =
      some ([EvOK K 300 lwF.scope ifE2 (LK l tx m a k) (hp q x d n) (.int (scr xs (8 + k))) (hp q x d n), ss k + scr xs (8 + k) = ss k + scr xs (8 + k), (ss k + scr xs (8 + k)).fmod 14 = .ofNat s, EvOK K 300 lwF.scope slP (LZ l tx m a k s) (hp q x d n) (.str (txt ((tx.drop a).take s))) (hp q x d n),
        ClOK K 300 940 [gT, .str (txt ((tx.drop a).take s))] (hp q x d n) .none ah1, ClOK K 300 35 [gT, gB] ah1 .none ah2, Int.ofNat a + Int.ofNat s = .ofNat (a + s)], .nxt, ⟨("at", .int (.ofNat (a + s))) :: LZ l tx m a k s, ah2, []⟩) := by
    generalize txt ((tx.drop a).take s) = piece
    rcases lt10 hk with rfl | rfl | rfl | rfl | rfl | rfl | rfl | rfl | rfl | rfl
    · generalize scr xs (8 + 0) = v; kernel_rfl
    · generalize scr xs (8 + 1) = v; kernel_rfl
    · generalize scr xs (8 + 2) = v; kernel_rfl
    · generalize scr xs (8 + 3) = v; kernel_rfl
    · generalize scr xs (8 + 4) = v; kernel_rfl
    · generalize scr xs (8 + 5) = v; kernel_rfl
    · generalize scr xs (8 + 6) = v; kernel_rfl
    · generalize scr xs (8 + 7) = v; kernel_rfl
    · generalize scr xs (8 + 8) = v; kernel_rfl
    · generalize scr xs (8 + 9) = v; kernel_rfl
  have w : LocLe (LM l tx m (a + s)) (("at", .int (.ofNat (a + s))) :: LZ l tx m a k s) := ⟨by kernel_rfl, by kernel_rfl, by kernel_rfl, by kernel_rfl, by kernel_rfl, by kernel_rfl, by kernel_rfl, by kernel_rfl, by kernel_rfl, by kernel_rfl, trivial⟩
  exact (run_exS OK R ⟨e1.go, rfl, hs, e2.go, ClOK.up R1 (by decide), R2, rfl, trivial⟩).post w
end
end Mine
end

section
set_option maxRecDepth 100000
set_option autoImplicit false
set_option linter.unusedVariables false
namespace Mine
open PySem PySem.W PySem.Calls PyProof.Rows
/-! all strings of the tree may stand in a comparison -/
noncomputable abbrev sok (x : Str) : Bool := PyData.strOk x
theorem sok_e : sok "" = true := by decide +kernel
theorem sok_el : sok "element" = true := by decide +kernel
theorem sok_co : sok "comment" = true := by decide +kernel
theorem sok_tx : sok "text" = true := by decide +kernel
noncomputable def NdOK (nd : Nd) : Prop := sok nd.kind = true ∧ sok nd.space = true ∧ sok nd.name = true ∧ sok nd.text = true
noncomputable def SOK (U : List Nd) : Prop := ∀ (i : Nat) (nd : Nd), U[i]? = some nd → NdOK nd
theorem sok_app {x y : Str} (h : sok x = true) (k : sok y = true) : sok (x ++ y) = true := by
  show (x.cps ++ y.cps).all _ = true
  rw [Array.all_append]
  exact Bool.and_eq_true_iff.mpr ⟨h, k⟩
theorem SOK.add {U : List Nd} (h : SOK U) (p : Nat) {nd : Nd} (hn : NdOK nd) : SOK (addNd U p nd) := fun i a e => by
  rcases add_inv e with ⟨_, q, e1, rfl⟩ | ⟨_, rfl⟩
  · have := h _ _ e1
    split
    · exact this
    · exact this
  · exact hn
theorem SOK.grow {U : List Nd} (h : SOK U) (m : Nat) {s : Str} (hs : sok s = true) : SOK (U.modify m fun q => {q with text := q.text ++ s}) := fun i a e => by
  rw [List.getElem?_modify] at e
  cases q : U[i]? with
  | none => rw [q] at e; simp at e
  | some b =>
    rw [q] at e
    have hb := h _ _ q
    by_cases hm : m = i
    · subst hm
      simp at e
      subst e
      exact ⟨hb.1, hb.2.1, hb.2.2.1, sok_app hb.2.2.2 hs⟩
    · simp [hm] at e
      subst e
      exact hb
theorem SOK.put {U : List Nd} (h : SOK U) (p : Nat) {s : Str} (hs : sok s = true) : SOK (put U p s) := by
  have A : SOK (addNd U p (txNd p s)) := h.add p ⟨sok_tx, sok_e, sok_e, hs⟩
  unfold Mine.put
  split
  · rename_i m _
    cases q : ((at_ U m).kind == "text")
    · exact A
    · exact h.grow m hs
  · exact A
theorem SOK.feed {z : Z} (h : SOK z.U) : ∀ (tk : Tk), (∀ s, tk = .char s → sok s = true) → (∀ s, tk = .com s → sok s = true) → (∀ s, tk = .start s → sok s = true) → SOK (z.feed tk).U
  | .char s, a, _, _ => h.put z.top (a s rfl)
  | .com s, _, b, _ => h.add _ ⟨sok_co, sok_e, sok_e, b s rfl⟩
  | .fin nm, _, _, _ => by
    show SOK (bif z.raw then ({z with S := z.S.tail, raw := false} : Z) else bif decide (1 < z.S.length) && z.cur.name == nm then ({z with S := z.S.tail} : Z) else z).U
    cases z.raw
    · cases (decide (1 < z.S.length) && z.cur.name == nm) <;> exact h
    · exact h
  | .eof, _, _, _ => h
  | .start nm, _, _, c => by
    have E : ∀ (w : Z) (sp : Str), w.U = z.U → sok sp = true → SOK (w.open_ sp nm).U := fun w sp e hs => by
      show SOK (addNd w.U w.top ⟨"element", sp, nm, "", w.top + 1, []⟩)
      rw [e]
      exact h.add _ ⟨sok_el, hs, c nm rfl, sok_e⟩
    show SOK (bif z.isFor && !(nm == "b") then z.open_ "svg" nm else bif nm == "t" then {z.open_ "html" "t" with raw := true} else z.out.open_ (bif nm == "s" then "svg" else "html") nm).U
    cases z.isFor && !(nm == "b")
    · show SOK (bif nm == "t" then {z.open_ "html" "t" with raw := true} else z.out.open_ (bif nm == "s" then "svg" else "html") nm).U
      cases hn : nm == "t"
      · show SOK (z.out.open_ (bif nm == "s" then "svg" else "html") nm).U
        refine E z.out _ rfl ?_
        cases nm == "s"
        · show sok "html" = true; decide +kernel
        · show sok "svg" = true; decide +kernel
      · have : nm = "t" := beq_iff_eq.mp hn
        subst this
        exact E z "html" rfl (by decide +kernel)
    · exact E z "svg" rfl (by decide +kernel)
theorem sok_txt (i : Nat) (hi : i < 12) : sok (txt (partC i)) = true := by
  rcases lt12 hi with rfl | rfl | rfl | rfl | rfl | rfl | rfl | rfl | rfl | rfl | rfl | rfl <;> decide +kernel
theorem SOK.rd {z : Z} (h : SOK z.U) {i : Nat} (hi : i < 12) : SOK (z.rd i).U := by
  have P : ∀ (w : Z) (s : Str), SOK w.U → sok s = true → SOK (w.putS s).U := fun w s hw hs => hw.put w.top hs
  have F : ∀ nm, SOK (z.feed (.fin nm)).U := fun nm => h.feed _ (by intro s e; cases e) (by intro s e; cases e) (by intro s e; cases e)
  have O : ∀ nm, sok nm = true → SOK (z.feed (.start nm)).U := fun nm hn => h.feed _ (by intro s e; cases e) (by intro s e; cases e) (by intro s e; cases e; exact hn)
  have C : ∀ s, sok s = true → SOK (z.feed (.com s)).U := fun s hs => h.feed _ (by intro s e; cases e) (by intro s e; cases e; exact hs) (by intro s e; cases e)
  have Q : SOK (z.putS (txt (partC i))).U := P z _ h (sok_txt i hi)
  unfold Z.rd
  cases z.raw with
  | true =>
    rcases lt12 hi with rfl | rfl | rfl | rfl | rfl | rfl | rfl | rfl | rfl | rfl | rfl | rfl
    all_goals first | exact F _ | exact Q
  | false =>
    rcases lt12 hi with rfl | rfl | rfl | rfl | rfl | rfl | rfl | rfl | rfl | rfl | rfl | rfl
    · exact O _ (by decide +kernel)
    · exact F _
    · exact O _ (by decide +kernel)
    · exact F _
    · exact O _ (by decide +kernel)
    · exact F _
    · exact P z _ h (by decide +kernel)
    · show SOK (bif z.isFor then z.putS (txt [121]) else z.feed (.com "[CDATA[y]]")).U
      cases z.isFor
      · exact C _ (by decide +kernel)
      · exact P z _ h (by decide +kernel)
    · exact F _
    · show SOK (bif z.isFor then z.putS (txt [93, 60, 98, 62]) else (z.feed (.com "[CDATA[]<b")).putS (txt [93, 93, 62])).U
      cases z.isFor
      · exact P _ _ (C _ (by decide +kernel)) (by decide +kernel)
      · exact P z _ h (by decide +kernel)
    · exact O _ (by decide +kernel)
    · exact P z _ h (by decide +kernel)
theorem SOK.rds : ∀ (is : List Nat), (∀ i ∈ is, i < 12) → ∀ {z : Z}, SOK z.U → SOK (z.rds is).U
  | [], _, z, h => h
  | i :: is, hi, z, h => SOK.rds is (fun j hj => hi j (.tail _ hj)) (h.rd (hi i (.head _)))
theorem SOK.z0 : SOK z0.U := fun i nd e => by
  cases i with
  | zero => obtain rfl := (Option.some.inj e).symm; exact ⟨by decide +kernel, by decide +kernel, by decide +kernel, by decide +kernel⟩
  | succ i => cases e
theorem flat_tup {U : List Nd} (h : SOK U) : ∀ (f k d : Nat), 2 * f ≤ d → flatG (tupG U f k) d = true
  | 0, k, d, _ => by cases d <;> rfl
  | f + 1, k, d, hd => by
    obtain ⟨e, rfl⟩ : ∃ e, d = e + 2 := ⟨d - 2, by omega⟩
    have hN : NdOK (at_ U k) := by
      unfold at_
      cases q : U[k]? with
      | none => exact ⟨by decide +kernel, by decide +kernel, by decide +kernel, by decide +kernel⟩
      | some nd => exact h _ _ q
    have L : ∀ ks : List Nat, flatL (ks.map (tupG U f)) e = true := fun ks => by
      induction ks with
      | nil => rfl
      | cons j ks ih =>
        show (flatG (tupG U f j) e && flatL (ks.map (tupG U f)) e) = true
        rw [flat_tup h f j e (by omega), ih]; rfl
    show (sok (at_ U k).kind && (sok (at_ U k).space && (sok (at_ U k).name && (true && (sok (at_ U k).text && (flatL ((at_ U k).kids.map (tupG U f)) e && (true && true))))))) = true
    rw [hN.1, hN.2.1, hN.2.2.1, hN.2.2.2, L]; rfl
theorem flat_ers : ∀ er : List Nat, flatL (gErs er) 50 = true
  | [] => rfl
  | p :: er => by
    show (flatG (gErr (.ofNat p)) 50 && flatL (gErs er) 50) = true
    rw [flat_ers er, Bool.and_true]
    show (sok _ && (true && true)) = true
    decide +kernel
/-! how many nodes -/
theorem put_len (U : List Nd) (p : Nat) (s : Str) : (put U p s).length ≤ U.length + 1 := by
  unfold Mine.put
  split
  · rename_i m _
    cases q : ((at_ U m).kind == "text")
    · show (addNd _ _ _).length ≤ _; rw [addNd_len]; exact Nat.le_refl _
    · show (List.modify _ _ _).length ≤ _; simp
  · rw [addNd_len]; exact Nat.le_refl _
theorem feed_len (z : Z) : ∀ tk, (z.feed tk).U.length ≤ z.U.length + 1
  | .char s => put_len _ _ _
  | .com s => by show (addNd _ _ _).length ≤ _; rw [addNd_len]; exact Nat.le_refl _
  | .eof => Nat.le_succ _
  | .fin nm => by
    show (bif z.raw then ({z with S := z.S.tail, raw := false} : Z) else bif decide (1 < z.S.length) && z.cur.name == nm then ({z with S := z.S.tail} : Z) else z).U.length ≤ _
    cases z.raw
    · cases (decide (1 < z.S.length) && z.cur.name == nm) <;> exact Nat.le_succ _
    · exact Nat.le_succ _
  | .start nm => by
    show (bif z.isFor && !(nm == "b") then z.open_ "svg" nm else bif nm == "t" then {z.open_ "html" "t" with raw := true} else z.out.open_ (bif nm == "s" then "svg" else "html") nm).U.length ≤ _
    cases z.isFor && !(nm == "b")
    · show (bif nm == "t" then {z.open_ "html" "t" with raw := true} else z.out.open_ (bif nm == "s" then "svg" else "html") nm).U.length ≤ _
      cases nm == "t"
      · show (addNd _ _ _).length ≤ _; rw [addNd_len]; exact Nat.le_refl _
      · show (addNd _ _ _).length ≤ _; rw [addNd_len]; exact Nat.le_refl _
    · show (addNd _ _ _).length ≤ _; rw [addNd_len]; exact Nat.le_refl _
theorem rd_len (z : Z) (i : Nat) : (z.rd i).U.length ≤ z.U.length + 2 := by
  have P : ∀ (w : Z) s, (w.putS s).U.length ≤ w.U.length + 1 := fun w s => put_len _ _ _
  have F : ∀ tk, (z.feed tk).U.length ≤ z.U.length + 2 := fun tk => Nat.le_succ_of_le (feed_len z tk)
  have P2 : ∀ s, (z.putS s).U.length ≤ z.U.length + 2 := fun s => Nat.le_succ_of_le (P z s)
  unfold Z.rd
  cases z.raw with
  | true =>
    show (bif i == 5 || i == 8 then z.feed (.fin "t") else z.putS (txt (partC i))).U.length ≤ _
    cases (i == 5 || i == 8)
    · exact P2 _
    · exact F (.fin "t")
  | false =>
    match i with
    | 0 => exact F (.start "b")
    | 1 => exact F (.fin "b")
    | 2 => exact F (.start "s")
    | 3 => exact F (.fin "s")
    | 4 => exact F (.start "t")
    | 5 => exact F (.fin "t")
    | 6 => exact P2 (txt [120])
    | 7 =>
      show (bif z.isFor then z.putS (txt [121]) else z.feed (.com "[CDATA[y]]")).U.length ≤ _
      cases z.isFor
      · exact F (.com "[CDATA[y]]")
      · exact P2 _
    | 8 => exact F (.fin "t")
    | 9 =>
      show (bif z.isFor then z.putS (txt [93, 60, 98, 62]) else (z.feed (.com "[CDATA[]<b")).putS (txt [93, 93, 62])).U.length ≤ _
      cases z.isFor
      · exact Nat.le_trans (P (z.feed (.com "[CDATA[]<b")) (txt [93, 93, 62])) (Nat.succ_le_succ (feed_len z _))
      · exact P2 _
    | 10 => exact F (.start "b")
    | n + 11 => exact P2 (txt [121, 122])
theorem rds_len : ∀ (is : List Nat) (z : Z), (z.rds is).U.length ≤ z.U.length + 2 * is.length
  | [], z => Nat.le_refl _
  | i :: is, z => by
    have h1 := rds_len is (z.rd i)
    have h2 := rd_len z i
    show ((z.rd i).rds is).U.length ≤ _
    simp only [List.length_cons]
    omega
end Mine
end

section
set_option maxRecDepth 100000
set_option autoImplicit false
set_option linter.unusedVariables false
set_option linter.unusedSectionVars false
set_option tactic.hygienic false
namespace Mine
open PySem PySem.W PySem.Calls PyProof.Rows PySem.Builtin PySem.Builtin.Str
noncomputable def mnE : Expr := callA (forI mnK) 0
noncomputable def slR : Expr := callA (asV (stAt (whB mnW) 6)) 0
section
variable {K : Frag} (OK : PrOK K PP) {l : Nat} {xs : List Int} (Sc : Script K l xs) (hx : xs.length ≤ 63) {q : Pre} {rn : List AO} {tx : List Nat} {m : Nat} {N0 : Nat} {cN : Cf} {x : X} {d n : List AO}
include OK
include Sc hx in
theorem mk_turns (hok : ∀ c ∈ tx, c ∈ okC) (hl : tx.length ≤ 200) (hN : N0 ≤ 500) (hp' : cN.p = tx.length) : ∀ (i k : Nat), k + i ≤ 10 → ∀ (a : Nat) (ah : AH), LpS q rn tx N0 cN a ah →
    ∃ a' ah', LpS q rn tx N0 cN a' ah' ∧ TnOK K 310 lwF.scope "k" (whB mnK) (fun _ => True) (intsG (.ofNat k) i) (LM l tx m a) ah .nxt (LM l tx m a') ah'
  | 0, k, h, a, ah, H => ⟨a, ah, H, .nil trivial⟩
  | i + 1, k, h, a, ah, H => by
    obtain ⟨ah1, ah2, R1, R2, H2, _⟩ := lp_step OK hok hl hN hp' (sz := sz xs k) H
    obtain ⟨a', ah', H', T⟩ := mk_turns hok hl hN hp' i (k + 1) (by omega) (a + sz xs k) ah2 H2
    obtain ⟨c, N', out, wt, P, _, ⟨o, dg, nn, D, hah⟩, _⟩ := H
    subst hah
    have B := mk_turn OK Sc hx (m := m) k (by omega) a (sz xs k) (sz_eq xs k) (by omega) R1 R2
    exact ⟨a', ah', H', TnOK.nxtS trivial B T⟩
include Sc hx in
theorem mk_for (hm : m = 0 ∨ m = 10) (hok : ∀ c ∈ tx, c ∈ okC) (hl : tx.length ≤ 200) (hN : N0 ≤ 500) (hp' : cN.p = tx.length) {ah : AH} (H : LpS q rn tx N0 cN 0 ah) :
    ∃ a' ah', LpS q rn tx N0 cN a' ah' ∧ ExOne K 310 lwF.scope (stAt (whB mnW) 5) (LM l tx m 0) ah .nxt (LM l tx m a') ah' := by
  obtain ⟨a', ah', H', T⟩ := mk_turns OK Sc hx (m := m) hok hl hN hp' m 0 (by omega) 0 ah H
  refine ⟨a', ah', H', ?_⟩
  have sh : stAt (whB mnW) 5 = .For (.Name "k" (forP mnK)) (.Call (.Name "range" (nmPos (callF (forI mnK)))) [mnE] [] (callP (forI mnK))) (whB mnK) [] (stPos mnK) := by kernel_rfl
  rw [sh]
  have ev : EvS K 10 lwF.scope mnE (LM l tx m 0) ah (.int (m : Nat)) ah := ⟨run_ev OK (b := 0) (j := 10) (hs := []) (c := []) (hs' := []) (loc' := LM l tx m 0) (by kernel_rfl) trivial⟩
  have ev' : EvS K 310 lwF.scope mnE (LM l tx m 0) ah (.int (m : Nat)) ah := ev.up (by decide)
  exact ⟨for_range OK (by decide +kernel) (by decide +kernel) (by kernel_rfl) (by
    have z : (match mnE with | .Starred .. => true | _ => false) = false := by kernel_rfl
    intro y p h
    rw [h] at z; cases z) ev'.go (by omega) T⟩
theorem slr_ev (a : Nat) (ah : AH) (hl : tx.length ≤ 200) : EvS K 10 lwF.scope slR (LM l tx m a) ah (.str (txt (tx.drop a))) ah := by
  have sh : slR = .Subscript (subO slR) (.Slice (some (sliL (subI slR))) none none (sliP (subI slR))) (subP slR) := by kernel_rfl
  rw [sh, ← slice_all]
  have h1 : (mk PP (OrS K 0) 10).ev lwF.scope (subO slR) ⟨LM l tx m a, ah, []⟩ = some ([], .str (txt tx), ⟨LM l tx m a, ah, []⟩) := by kernel_rfl
  have h2 : (mk PP (OrS K 0) 10).ev lwF.scope (sliL (subI slR)) ⟨LM l tx m a, ah, []⟩ = some ([], .int (.ofNat a), ⟨LM l tx m a, ah, []⟩) := by kernel_rfl
  have hz : (txt tx).length ≤ sizeLine := by
    have : (txt tx).length = tx.length := (by show tx.toArray.size = _; simp)
    rw [this]; exact Nat.le_trans hl (by decide +kernel)
  have e1 : EvS K 10 lwF.scope (subO slR) (LM l tx m a) ah (.str (txt tx)) ah := ⟨run_ev OK h1 trivial⟩
  have e2 : EvS K 10 lwF.scope (sliL (subI slR)) (LM l tx m a) ah (.int (.ofNat a)) ah := ⟨run_ev OK h2 trivial⟩
  exact ⟨EvOK.slice_sn e1.go e2.go hz (fun _ _ => by kernel_rfl)⟩
end
noncomputable def pcH (k : Nat) : List H := List.replicate k (.p .c)
noncomputable def suH : List H := pcH 11 ++ [.p .d, .p .d] ++ pcH 8 ++ [.p .d, .p .d, .p .n, .o (.list []), .o (.list []), .o (.list []), .o (.list [])] ++ pcH 9
noncomputable abbrev t00 : TM := ⟨.data, none, "", ""⟩
noncomputable abbrev H0 (q : Pre) (U : List Nd) : AH := hp q (xB z0 "" (xT t00 0 [] false false false false [] [] .none)) (gD z0.U) (gRN U ++ [.list []])
noncomputable abbrev LE (l : Nat) (tx : List Nat) (m : Nat) : Loc := ("many", .int (.ofNat m)) :: lwL4 l tx
/-- what the making of the two asks -/
noncomputable def suC (U : List Nd) : List Prop := List.replicate 7 (0 < 1000000) ++ List.replicate 7 (1 < 1000000) ++ [(gRN U ++ [AO.list []])[(gRN U).length]? = some (AO.list [])] ++ List.replicate 3 (some (AO.list []) = some (AO.list [])) ++ [0 < 1000000, Int.ofNat 0 = Int.ofNat 0, 1 < 2, 0 < 1000000]
theorem suC_ok (U : List Nd) : Ands (suC U) := ⟨by decide, by decide, by decide, by decide, by decide, by decide, by decide, by decide, by decide, by decide, by decide, by decide, by decide, by decide, get_len _ _, rfl, rfl, rfl, by decide, rfl, by decide, by decide, trivial⟩
noncomputable abbrev qE (p0 p1 : AO) (er : List Nat) (r : Bool) : Pre := ⟨p0, p1, .list (gErs er), .list (gFau r)⟩
noncomputable abbrev xE (z : Z) (o : Str) (t : TM) (p : Nat) (er : List Nat) (fo : Bool) (sg out : List GV) (dg : GV) : X := xB (z.feed .eof) o (xT t p er fo false true true sg out dg)
noncomputable def tupX (U : List Nd) (f : Nat) : List GV := [.str (at_ U 0).kind, .str (at_ U 0).space, .str (at_ U 0).name, .tup [], .str (at_ U 0).text, .tup ((at_ U 0).kids.map (tupG U f)), .none]
section
variable {K : Frag} (OK : PrOK K PP) {l : Nat} {tx : List Nat} {m a k : Nat} {p0 p1 : AO} {er : List Nat} {U : List Nd}
theorem mn_eq {z : Z} {xF x2 : X} {dF nF d2 n2 d4 n4 n5 d6 : List AO} {ah1 ah3 : AH} {o : Str} {t : TM} {p : Nat} {fo : Bool} {sg out : List GV} {dg : GV} {f : Nat} {piece : Str} :
    (mk PP (OrS K 310) 20).ex lwF.scope (whB mnW) ⟨LE l tx m, bAH (qE p0 p1 er z.raw) U, suH ++ [.w .nxt (LM l tx m a) (hp (qE p0 p1 er z.raw) xF dF nF), .e (.str piece) (hp (qE p0 p1 er z.raw) xF dF nF), .c 940 .none ah1, .c 35 .none (hp (qE p0 p1 er z.raw) x2 d2 n2), .c 947 .none ah3, .c 35 .none (hp (qE p0 p1 er z.raw) (xE z o t p er fo sg out dg) d4 n4),
        .c 563 (tupG U (f + 1) 0) (hp (qE p0 p1 er z.raw) (xE z o t p er fo sg out dg) d4 n5), .c 1128 (tupG U (f + 1) 0) (hp (qE p0 p1 er z.raw) (xE z o t p er fo sg out dg) d6 n5), .m true, .m true, .p .n, .o (.list [])]⟩ =
      some (suC U ++ [StOK K 310 lwF.scope (stAt (whB mnW) 5) (LM l tx m 0) (H0 (qE p0 p1 er z.raw) U) .nxt (LM l tx m a) (hp (qE p0 p1 er z.raw) xF dF nF),
        EvOK K 310 lwF.scope slR (LM l tx m a) (hp (qE p0 p1 er z.raw) xF dF nF) (.str piece) (hp (qE p0 p1 er z.raw) xF dF nF), ClOK K 310 940 [gT, .str piece] (hp (qE p0 p1 er z.raw) xF dF nF) .none ah1, ClOK K 310 35 [gT, gB] ah1 .none (hp (qE p0 p1 er z.raw) x2 d2 n2),
        ClOK K 310 947 [gT] (hp (qE p0 p1 er z.raw) x2 d2 n2) .none ah3, ClOK K 310 35 [gT, gB] ah3 .none (hp (qE p0 p1 er z.raw) (xE z o t p er fo sg out dg) d4 n4),
        ClOK K 310 563 [.obj (.c 6), .int (.ofNat 1)] (hp (qE p0 p1 er z.raw) (xE z o t p er fo sg out dg) d4 n4) (tupG U (f + 1) 0) (hp (qE p0 p1 er z.raw) (xE z o t p er fo sg out dg) d4 n5),
        ClOK K 310 1128 [.obj (.n 1)] (hp (qE p0 p1 er z.raw) (xE z o t p er fo sg out dg) d4 n5) (tupG U (f + 1) 0) (hp (qE p0 p1 er z.raw) (xE z o t p er fo sg out dg) d6 n5),
        (tupX U f = tupX U f ∧ flatL (tupX U f) 50 = true), (gErs er = gErs er ∧ flatL (gErs er) 50 = true), (gFau z.raw = gFau z.raw ∧ flatL (gFau z.raw) 50 = true), (n5 ++ [AO.list []])[n5.length]? = some (.list [])], .nxt, ⟨LM l tx m a, hp (qE p0 p1 er z.raw) (xE z o t p er fo sg out dg) d6 (n5 ++ [.list []]), []⟩) := by
  kernel_rfl
include OK in
theorem mn_run {z : Z} {xF x2 : X} {dF nF d2 n2 d4 n4 n5 d6 : List AO} {ah1 ah3 : AH} {o : Str} {t : TM} {p : Nat} {fo : Bool} {sg out : List GV} {dg : GV} {f : Nat} {piece : Str}
    (F : ExOne K 310 lwF.scope (stAt (whB mnW) 5) (LM l tx m 0) (H0 (qE p0 p1 er z.raw) U) .nxt (LM l tx m a) (hp (qE p0 p1 er z.raw) xF dF nF))
    (S : EvS K 310 lwF.scope slR (LM l tx m a) (hp (qE p0 p1 er z.raw) xF dF nF) (.str piece) (hp (qE p0 p1 er z.raw) xF dF nF))
    (R1 : ClOK K 310 940 [gT, .str piece] (hp (qE p0 p1 er z.raw) xF dF nF) .none ah1) (R2 : ClOK K 310 35 [gT, gB] ah1 .none (hp (qE p0 p1 er z.raw) x2 d2 n2))
    (R3 : ClOK K 310 947 [gT] (hp (qE p0 p1 er z.raw) x2 d2 n2) .none ah3) (R4 : ClOK K 310 35 [gT, gB] ah3 .none (hp (qE p0 p1 er z.raw) (xE z o t p er fo sg out dg) d4 n4))
    (R5 : ClOK K 310 563 [.obj (.c 6), .int (.ofNat 1)] (hp (qE p0 p1 er z.raw) (xE z o t p er fo sg out dg) d4 n4) (tupG U (f + 1) 0) (hp (qE p0 p1 er z.raw) (xE z o t p er fo sg out dg) d4 n5))
    (R6 : ClOK K 310 1128 [.obj (.n 1)] (hp (qE p0 p1 er z.raw) (xE z o t p er fo sg out dg) d4 n5) (tupG U (f + 1) 0) (hp (qE p0 p1 er z.raw) (xE z o t p er fo sg out dg) d6 n5))
    (hf : flatL (tupX U f) 50 = true) :
    ExS K 330 lwF.scope (whB mnW) (LE l tx m) (bAH (qE p0 p1 er z.raw) U) .nxt (LM l tx m a) (hp (qE p0 p1 er z.raw) (xE z o t p er fo sg out dg) d6 (n5 ++ [.list []])) := by
  have hfr : flatL (gFau z.raw) 50 = true := by cases z.raw <;> decide +kernel
  exact run_exS OK mn_eq (Ands.app (suC_ok U) ⟨F.go, S.go, R1, R2, R3, R4, R5, R6, ⟨rfl, hf⟩, ⟨rfl, flat_ers er⟩, ⟨rfl, hfr⟩, get_len _ _, trivial⟩)
end
end Mine
end

section
set_option maxRecDepth 100000
set_option autoImplicit false
set_option linter.unusedVariables false
set_option linter.unusedSectionVars false
set_option tactic.hygienic false
namespace Mine
open PySem PySem.W PySem.Calls PyProof.Rows PySem.Builtin PySem.Builtin.Str
theorem look_mem : ∀ {loc : Loc} {x : Str} {g : GV}, loc.lookup x = some g → ∃ p ∈ loc, p.2 = g
  | [], _, _, h => by cases h
  | (y, u) :: r, x, g, h => by
    rw [List.lookup_cons] at h
    split at h
    · cases h; exact ⟨_, .head _, rfl⟩
    · obtain ⟨p, hp, e⟩ := look_mem h; exact ⟨p, .tail _ hp, e⟩
theorem ExS.forget {K : Frag} {n : Nat} {sc : Scope} {ss : List Stmt} {loc loc1 loc2 : Loc} {ah ah1 t : AH} (h : ExS K n sc ss loc ah .nxt loc1 ah1) (u : Cut t ah1) (lc : ah.c.length ≤ t.c.length) (ld : ah.d.length ≤ t.d.length) (ln : ah.n.length ≤ t.n.length)
    (i : ∀ r o, t.get r = some o → oIn t o) (w : LocLe loc2 loc1) (wi : ∀ x g, loc2.lookup x = some g → gIn t g) : ExS K n sc ss loc ah .nxt loc2 t := ⟨ExOK.forget h.go u lc ld ln i w wi⟩
theorem strs_in (t : AH) : ∀ (is : List Nat), gsIn t (gParts is)
  | [] => trivial
  | _ :: is => ⟨trivial, strs_in t is⟩
theorem ers_in (t : AH) : ∀ (er : List Nat), gsIn t (gErs er)
  | [] => trivial
  | _ :: er => ⟨⟨trivial, trivial, trivial⟩, ers_in t er⟩
theorem fau_in (t : AH) (r : Bool) : gsIn t (gFau r) := by
  cases r
  · exact trivial
  · exact ⟨⟨trivial, trivial, trivial⟩, trivial⟩
theorem gRN_odd {U : List Nd} {i : Nat} {o : AO} (h : (gRN U)[i]? = some o) : ∃ k nd, U[k]? = some nd ∧ (o = kidO nd ∨ o = ndO k nd) := by
  have hl : i < 2 * U.length := by have := get_lt h; rw [gRN_len] at this; exact this
  have hk : i / 2 < U.length := by omega
  have e := List.getElem?_eq_getElem hk
  refine ⟨i / 2, _, e, ?_⟩
  rcases Nat.mod_two_eq_zero_or_one i with q | q
  · have := gRN_kid e
    rw [show 2 * (i / 2) = i by omega, h] at this
    exact .inl (Option.some.inj this)
  · have := gRN_nd e
    rw [show 2 * (i / 2) + 1 = i by omega, h] at this
    exact .inr (Option.some.inj this)
section
variable {is : List Nat} {k : Nat}
theorem bAH_n {q : Pre} {U : List Nd} {i : Nat} (h : i < 2 * U.length) : gIn (bAH q U) (.obj (.n i)) := by
  have : i < (gRN U).length := by rw [gRN_len]; exact h
  exact ⟨_, List.getElem?_eq_getElem this⟩
theorem bAH_in (W : WF (z0.rds is) k) : ∀ r o, (bAH (qOf is) (z0.rds is).U).get r = some o → oIn (bAH (qOf is) (z0.rds is).U) o := by
  have L : ∀ l : List Nat, (∀ j ∈ l, j < (z0.rds is).U.length) → gsIn (bAH (qOf is) (z0.rds is).U) (l.map fun j => .obj (.n (2 * j + 1))) := fun l h => gsIn_of fun g hg => by
    obtain ⟨j, hj, rfl⟩ := List.mem_map.mp hg
    exact bAH_n (by have := h j hj; omega)
  intro r o h
  cases r with
  | c i =>
    have h : ([(qOf is).p0, (qOf is).p1, (qOf is).p2, (qOf is).p3] : List AO)[i]? = some o := h
    match i, h with
    | 0, h => cases h; exact strs_in _ is
    | 1, h =>
      cases h
      show gsIn _ ((z0.rds is).S.reverse.map fun i => .obj (.n (2 * i + 1)))
      exact L _ fun j hj => by
        obtain ⟨nd, e, _⟩ := W.st j (List.mem_reverse.mp hj)
        exact get_lt e
    | 2, h => cases h; exact ers_in _ _
    | 3, h => cases h; exact fau_in _ _
    | i + 4, h => cases h
  | d i => cases h
  | n i =>
    have h : (gRN (z0.rds is).U)[i]? = some o := h
    obtain ⟨j, nd, e, rfl | rfl⟩ := gRN_odd h
    · exact L _ fun m hm => (W.kid _ _ e m hm).2
    · exact ⟨trivial, trivial, trivial, trivial, bAH_n (by have := get_lt e; omega), trivial⟩
theorem bAH_loc {l : Nat} {tx : List Nat} (W : WF (z0.rds is) k) : ∀ x g, (lwL4 l tx).lookup x = some g → gIn (bAH (qOf is) (z0.rds is).U) g := by
  intro x g h
  obtain ⟨p, hp, rfl⟩ := look_mem h
  obtain ⟨r0, h0, _⟩ := W.r0
  have := get_lt h0
  rcases List.mem_cons.mp hp with rfl | hp
  · exact ⟨_, rfl⟩
  rcases List.mem_cons.mp hp with rfl | hp
  · exact ⟨_, rfl⟩
  rcases List.mem_cons.mp hp with rfl | hp
  · exact bAH_n (by omega)
  rcases List.mem_cons.mp hp with rfl | hp
  · exact trivial
  rcases List.mem_cons.mp hp with rfl | hp
  · exact trivial
  · cases hp
end
section
variable {K : Frag} (OK : PrOK K PP) {l : Nat} {xs : List Int} (Sc : Script K l xs) (hx : xs.length ≤ 63)
include OK Sc hx
theorem mn_turn (is : List Nat) (hi : ∀ i ∈ is, i < 12) (h8 : is.length = 8) (m : Nat) (hm : m = 0 ∨ m = 10) :
    ExS K 330 lwF.scope (whB mnW) (LE l (flat is) m) (bAH (qOf is) (z0.rds is).U) .nxt (lwL4 l (flat is)) (bAH (qOf is) (z0.rds is).U) := by
  obtain ⟨N, t', hN, P, B⟩ := parts_path (tx := flat is) is hi wf0 (t := t00) (by exact ⟨rfl, rfl, fun h => nomatch h⟩) (pre := []) (post := []) (p := 0) (er := []) (by simp) rfl (by simp; omega)
  have hl : (flat is).length ≤ 200 := by have := flat_len is hi; omega
  have hok := flat_ok is hi
  have W : WF (z0.rds is) (1 + 300 * N) := P.wf wf0
  rw [Nat.zero_add, List.nil_append] at P
  have Hs : LpS (qOf is) (gRN (z0.rds is).U) (flat is) N ⟨z0.rds is, t', (flat is).length, z0.rdEs 0 is⟩ 0 (H0 (qOf is) (z0.rds is).U) := by
    refine ⟨_, N, [], false, P, Nat.le_refl _, ⟨"", .none, _, List.prefix_append _ _, rfl⟩, ?_, by simp, by simp⟩
    exact wf0.up (by omega)
  obtain ⟨a, ahF, HF, F⟩ := mk_for OK Sc hx (m := m) hm hok hl (by omega) rfl Hs
  obtain ⟨ah1, ah2, R1, R2, _, fin⟩ := lp_step OK hok hl (by omega) rfl (sz := (flat is).length) HF
  obtain ⟨k2, out2, wt2, H2, W2, hk2, ho2⟩ := fin (by omega)
  have epc : ((flat is).drop a).take (flat is).length = (flat is).drop a := List.take_of_length_le (by simp)
  rw [epc] at R1
  have HF' := HF
  obtain ⟨c, N', out, wt, _, _, ⟨o1, dg1, n1, _, e1⟩, _⟩ := HF'
  have H2' := H2
  obtain ⟨o2, dg2, n2, _, e2⟩ := H2'
  obtain ⟨ah3, H3, R3⟩ := end_piece OK H2
  have hst : t'.st = .data ∨ t'.st = .rc := by
    have := B.st
    cases q : (z0.rds is).raw with
    | true => rw [q] at this; exact .inr this
    | false => rw [q] at this; exact .inl this
  obtain ⟨ah4, H4, R4⟩ := drive_end OK H3 hst (by simp [sgOf]) W2 (by omega) (by omega)
  obtain ⟨o4, t4, p4, fo4, sg4, out4, dg4, n4, pre4, e4⟩ := H4
  subst e1 e2 e4
  have hU : ((z0.rds is).feed .eof).U = (z0.rds is).U := rfl
  have hlen : (z0.rds is).U.length ≤ 17 := by have := rds_len is z0; have e : z0.U.length = 1 := rfl; omega
  obtain ⟨f, hf⟩ : ∃ f, (z0.rds is).U.length = f + 1 := ⟨(z0.rds is).U.length - 1, by obtain ⟨r0, h0, _⟩ := W.r0; have := get_lt h0; omega⟩
  have hkid := W.kid
  have hsz : ∀ (i : Nat) (nd : Nd), (z0.rds is).U[i]? = some nd → nd.kids.length < 900000 := fun i nd e => by have := (W.szT i nd e).2; omega
  obtain ⟨g5, R5⟩ := plain_ok OK (z := (z0.rds is).feed .eof) (o := o4) (x := xT t4 p4 (z0.rdEs 0 is) fo4 false true true sg4 out4 dg4) (q := qOf is) hkid hsz (f + 1) 0 (by rw [hU]; omega) (by rw [hU]; omega) n4
  have hn : ∀ (i : Nat) (nd : Nd), (z0.rds is).U[i]? = some nd → (n4 ++ g5)[2 * i]? = some (kidO nd) ∧ (n4 ++ g5)[2 * i + 1]? = some (ndO i nd) := fun i nd e => by
    have p5 : gRN (z0.rds is).U <+: n4 ++ g5 := pre4.trans (List.prefix_append _ _)
    exact ⟨prefix_get p5 (gRN_kid e), prefix_get p5 (gRN_nd e)⟩
  obtain ⟨g6, R6⟩ := lt_ok OK hn hkid hsz (f + 1) 0 (by omega) (by omega) (core (qOf is) (xE (z0.rds is) o4 t4 p4 (z0.rdEs 0 is) fo4 sg4 out4 dg4)) (gD (z0.rds is).U)
  have hfl : flatL (tupX (z0.rds is).U f) 50 = true := flat_tup (SOK.rds is hi SOK.z0) (f + 1) 0 51 (by omega)
  have S := (slr_ev OK (l := l) (m := m) a (hp (qOf is) (xB c.z o1 (xT c.t c.p c.er c.z.isF wt false false (sgOf ((flat is).take a)) out dg1)) (gD c.z.U) n1) hl).up (m := 310) (by decide)
  have R := mn_run OK (z := z0.rds is) F S (ClOK.up R1 (by decide)) (ClOK.up R2 (by decide)) (ClOK.up R3 (by decide)) (ClOK.up R4 (by decide)) (ClOK.up R5 (by omega)) (ClOK.up R6 (by omega)) hfl
  refine R.forget ⟨⟨_, rfl⟩, List.nil_prefix, ?_⟩ (Nat.le_refl _) (Nat.le_refl _) (Nat.le_refl _) (bAH_in W) ?_ (bAH_loc W)
  · exact (pre4.trans (List.prefix_append _ _)).trans (List.prefix_append _ _)
  · exact ⟨by kernel_rfl, by kernel_rfl, by kernel_rfl, by kernel_rfl, by kernel_rfl, trivial⟩
end
end Mine
end

section
set_option maxRecDepth 100000
set_option autoImplicit false
set_option linter.unusedVariables false
set_option linter.unusedSectionVars false
set_option tactic.hygienic false
namespace Mine
open PySem PySem.W PySem.Calls PyProof.Rows PySem.Builtin PySem.Builtin.Str
section
variable {K : Frag} (OK : PrOK K PP) {l : Nat} {xs : List Int} (Sc : Script K l xs) (hx : xs.length ≤ 63)
include OK
theorem s3_ok (is : List Nat) (h : ∀ i ∈ is, i < 12) (hl : is.length ≤ 1000) : ExOne K 30 lwF.scope (stAt lwF.body 3) (lwL0 l) (pAH is) .nxt (("text", .str (txt (flat is))) :: lwL0 l) (pAH is) := by
  have tx := tx_ev OK (l := l) is h hl
  exact run_stS OK (sc := lwF.scope) (s := stAt lwF.body 3) (b := 10) (j := 20) (fl := .nxt) (loc := lwL0 l) (ah := pAH is) (ah1 := pAH is) (hs := [.e (.str (txt (flat is))) (pAH is)]) (c := [EvOK K 10 lwF.scope txE (lwL0 l) (pAH is) (.str (txt (flat is))) (pAH is)]) (hs' := []) (loc1 := ("text", .str (txt (flat is))) :: lwL0 l) (by kernel_rfl) ⟨tx.go, trivial⟩
theorem s4_ok (is : List Nat) (h : ∀ i ∈ is, i < 12) (h8 : is.length = 8) : ExOne K 160 lwF.scope (stAt lwF.body 4) (("text", .str (txt (flat is))) :: lwL0 l) (pAH is) .nxt (lwL4 l (flat is)) (bAH (qOf is) (z0.rds is).U) := by
  obtain ⟨d, R⟩ := reading_ok OK is h (by omega)
  obtain ⟨N, t', hN, P, B⟩ := parts_path (tx := flat is) is h wf0 (t := t00) (by exact ⟨rfl, rfl, fun h => nomatch h⟩) (pre := []) (post := []) (p := 0) (er := []) (by simp) rfl (by simp; omega)
  have W : WF (z0.rds is) (1 + 300 * N) := P.wf wf0
  have b := run_stS OK (sc := lwF.scope) (s := stAt lwF.body 4) (b := 140) (j := 20) (fl := .nxt) (loc := ("text", .str (txt (flat is))) :: lwL0 l) (ah := pAH is) (ah1 := ⟨[(qOf is).p0, (qOf is).p1, (qOf is).p2, (qOf is).p3], d, gRN (z0.rds is).U⟩)
    (hs := [.c 1123 (.tup [.obj (.n 1), .obj (.c 2), .obj (.c 3)]) ⟨[(qOf is).p0, (qOf is).p1, (qOf is).p2, (qOf is).p3], d, gRN (z0.rds is).U⟩]) (c := [ClOK K 140 1123 [.obj (.c 0)] ⟨[.list (gParts is)], [], []⟩ (.tup [.obj (.n 1), .obj (.c 2), .obj (.c 3)]) ⟨[(qOf is).p0, (qOf is).p1, (qOf is).p2, (qOf is).p3], d, gRN (z0.rds is).U⟩]) (hs' := [])
    (loc1 := ("faults", .obj (.c 3)) :: ("errors", .obj (.c 2)) :: ("root", .obj (.n 1)) :: ("text", .str (txt (flat is))) :: lwL0 l) (by kernel_rfl) ⟨R, trivial⟩
  have w : LocLe (lwL4 l (flat is)) (("faults", .obj (.c 3)) :: ("errors", .obj (.c 2)) :: ("root", .obj (.n 1)) :: ("text", .str (txt (flat is))) :: lwL0 l) := ⟨by kernel_rfl, by kernel_rfl, by kernel_rfl, by kernel_rfl, by kernel_rfl, trivial⟩
  exact ExOne.forget b ⟨List.prefix_rfl, List.nil_prefix, List.prefix_rfl⟩ (by show 1 ≤ 4; decide) (Nat.le_refl _) (Nat.zero_le _) (bAH_in W) w (bAH_loc W)
noncomputable def mnI : Expr := forI mnW
include Sc hx in
theorem s5_ok (is : List Nat) (hi : ∀ i ∈ is, i < 12) (h8 : is.length = 8) : ExOne K 330 lwF.scope (stAt lwF.body 5) (lwL4 l (flat is)) (bAH (qOf is) (z0.rds is).U) .nxt (lwL4 l (flat is)) (bAH (qOf is) (z0.rds is).U) := by
  have sh : stAt lwF.body 5 = .For (.Name "many" (forP mnW)) (forI mnW) (whB mnW) [] (stPos mnW) := by kernel_rfl
  rw [sh]
  have ev : EvS K 10 lwF.scope (forI mnW) (lwL4 l (flat is)) (bAH (qOf is) (z0.rds is).U) (.tup [.int (.ofNat 0), .int (.ofNat 10)]) (bAH (qOf is) (z0.rds is).U) := ⟨run_ev OK (b := 0) (j := 10) (hs := []) (c := []) (hs' := []) (loc' := lwL4 l (flat is)) (by kernel_rfl) trivial⟩
  have ev' : EvS K 330 lwF.scope (forI mnW) (lwL4 l (flat is)) (bAH (qOf is) (z0.rds is).U) (.tup [.int (.ofNat 0), .int (.ofNat 10)]) (bAH (qOf is) (z0.rds is).U) := ev.up (by decide)
  have A := mn_turn OK Sc hx is hi h8 0 (.inl rfl)
  have B := mn_turn OK Sc hx is hi h8 10 (.inr rfl)
  have T : TnOK K 330 lwF.scope "many" (whB mnW) (fun _ => True) [.int (.ofNat 0), .int (.ofNat 10)] (lwL4 l (flat is)) (bAH (qOf is) (z0.rds is).U) .nxt (lwL4 l (flat is)) (bAH (qOf is) (z0.rds is).U) :=
    TnOK.nxtS trivial A (TnOK.nxtS trivial B (.nil trivial))
  exact ⟨for_tup (by decide +kernel) (by decide +kernel) ev'.go T⟩
end
theorem law_ok : LawOK := by
  intro K l xs OK Sc hx
  have hi := ixs_lt xs 8
  have h8 := ixs_len xs 8
  have a0 : ExOne K 20 lwF.scope (stAt lwF.body 0) [("script", .fn l)] ⟨[], [], []⟩ .nxt [("table", .tup tbG), ("script", .fn l)] ⟨[], [], []⟩ := run_stS OK (b := 0) (j := 20) (hs := []) (c := []) (hs' := []) (by kernel_rfl) trivial
  have a1 : ExOne K 20 lwF.scope (stAt lwF.body 1) [("table", .tup tbG), ("script", .fn l)] ⟨[], [], []⟩ .nxt (lwL0 l) (pAH []) := run_stS OK (b := 0) (j := 20) (hs := [.p .c]) (c := []) (hs' := []) (by kernel_rfl) trivial
  have a2 := s2_ok OK Sc hx
  have a3 := s3_ok OK (l := l) (ixs xs 8) hi (by omega)
  have a4 := s4_ok OK (l := l) (ixs xs 8) hi h8
  have a5 := s5_ok OK Sc hx (ixs xs 8) hi h8
  have a6 : ExOne K 20 lwF.scope (stAt lwF.body 6) (lwL4 l (flat (ixs xs 8))) (bAH (qOf (ixs xs 8)) (z0.rds (ixs xs 8)).U) (.ret (.bool true)) (lwL4 l (flat (ixs xs 8))) (bAH (qOf (ixs xs 8)) (z0.rds (ixs xs 8)).U) := run_stS OK (b := 0) (j := 20) (hs := []) (c := []) (hs' := []) (by kernel_rfl) trivial
  have sh : lwF.body = [stAt lwF.body 0, stAt lwF.body 1, stAt lwF.body 2, stAt lwF.body 3, stAt lwF.body 4, stAt lwF.body 5, stAt lwF.body 6] := by kernel_rfl
  have R : ExS K 340 lwF.scope [stAt lwF.body 0, stAt lwF.body 1, stAt lwF.body 2, stAt lwF.body 3, stAt lwF.body 4, stAt lwF.body 5, stAt lwF.body 6] [("script", .fn l)] ⟨[], [], []⟩ (.ret (.bool true)) (lwL4 l (flat (ixs xs 8))) (bAH (qOf (ixs xs 8)) (z0.rds (ixs xs 8)).U) :=
    (a0.up (by decide)).cons ((a1.up (by decide)).cons ((a2.up (by decide)).cons ((a3.up (by decide)).cons ((a4.up (by decide)).cons ((a5.up (by decide)).cons (a6.up (by decide)).ex)))))
  rw [← sh] at R
  exact ⟨_, _, fun C I k => R.go C I k⟩
end Mine
end

theorem PySem.Challenge.cw_nz0110_01_holds : PySem.Challenge.rw_nz0110_01.Holds :=
  Mine.head Mine.law_ok
